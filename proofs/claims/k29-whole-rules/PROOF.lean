import PyProof.Rows.All
import Wide.All
import OpenK.AllK
import Wide.FinOn
import HandS.ForMost
import HandS.Strs
import HandS.Walk
import PyProof.EnumMake
import PyProof.Draws
import PyProof.StrWalks
import HandS.ForExc
import HandS.IsInst
import HandS.Property
import HandS.Wide
import HandS.Iter
import HandS.More
import HandS.Codes
import KE.KEqSeq
import HandS.Defaults
import HandS.SlotsOwn
import HandS.Records
import KE.KOpsOwn
import HandS.Steps
import HandS.Text
import HandS.Head0
import HandS.Head1
import HandS.Head2
import HandS.HeadEnd
import HandS.HeadHook1
import HandS.HeadHook2
import HandS.Words
import HandS.ClsMeth
import HandS.Replace
import PyProof.StrLawsIn
import PyProof.Rows.BitMore
import PyProof.TupleIter
import PyProof.Rows.StrBool
import HandS.MakeKwOnly
import HandS.HeadWalk
import PySem.Challenge.RW_linestrikes_k29_whole_rules_and_narrower
set_option Elab.async false
set_option linter.all false
set_option maxRecDepth 100000
set_option maxHeartbeats 0
/-! Line strikes, layer H: the head by facts: any Bool of the part of the heap that the top's names reach. -/
namespace LS
open PySem PySem.Spec PyProof.Rows L2
/-- a function object anywhere: what the look sees of it -/
def fnAt (K : PySem.W.Frag) (a : Addr) : He.FnW := match K.lookup a with
  | some ⟨_, _, .func fd, _⟩ => some (fd.name, fd.qualname, fd.params, fd.body, fd.scope, fd.globals, fd.closure, fd.builtins)
  | _ => none
/-- one def: where it stands, its name, qualified name, parameters, body, scope, defaults, keyword-only defaults -/
structure DefM where
  ad : PySem.W.Frag → Addr
  name : Str
  qual : Str
  params : Arguments
  body : List Stmt
  scope : Scope
  dfl : List He.Dv := []
  kwd : List (Str × He.Dv) := []
def DefM.val (d : DefM) : He.FnW := some (d.name, d.qual, d.params, .stmts d.body, d.scope, mainGlobals, [], builtinsNs)
def DefM.dvs (K : PySem.W.Frag) (d : DefM) : List V := d.dfl.map (He.Dv.v K)
def DefM.kws (K : PySem.W.Frag) (d : DefM) : List (Str × V) := d.kwd.map fun z => (z.1, z.2.v K)
def DefM.ok (K : PySem.W.Frag) (d : DefM) : Bool := PySem.W.keepIn K (.ref (d.ad K)) && (match K.lookup (d.ad K) with
  | some ⟨_, _, .func fd, _⟩ => PySem.W.codeIn K fd.code d.qual && He.dflB K fd.defaults (d.dvs K) && He.kwdB K fd.kwdefaults (d.kws K)
  | _ => false)
theorem DefM.funD {K : PySem.W.Frag} {d : DefM} (e : fnAt K (d.ad K) = d.val) (c : d.ok K = true) : ∃ fd, FunD K d.name d.qual d.params d.body d.scope (d.dvs K) (d.kws K) (d.ad K) fd := by
  obtain ⟨kp, c2⟩ := He.ba c
  unfold fnAt at e
  cases lk : K.lookup (d.ad K) with
  | none =>
    rw [lk] at c2
    cases c2
  | some o =>
    obtain ⟨oc, od, dt, osl⟩ := o
    rw [lk] at c2 e
    cases dt with
    | func fd =>
      obtain ⟨m1, m2, m3, m4, m5, m6, m7, m8, m9, m10, m11, m12, m13, m14, m15⟩ := fd
      have e2 : (some (m1, m2, m3, m4, m5, m6, m7, m15) : He.FnW) = some (d.name, d.qual, d.params, .stmts d.body, d.scope, mainGlobals, [], builtinsNs) := e
      simp only [Option.some.injEq, Prod.mk.injEq] at e2
      obtain ⟨z1, z2, z3, z4, z5, z6, z7, z8⟩ := e2
      subst z1 z2 z3 z4 z5 z6 z7 z8
      obtain ⟨k12, k3⟩ := He.ba (show ((PySem.W.codeIn K m13 d.qual && He.dflB K m8 (d.dvs K)) && He.kwdB K m9 (d.kws K)) = true from c2)
      obtain ⟨k1, k2⟩ := He.ba k12
      exact ⟨_, ⟨oc, od, m8, m9, m10, m11, m12, m13, m14, osl, rfl, lk, k1, He.dflB_ok k2, He.kwdB_ok k3⟩, kp⟩
    | _ => cases c2
/-- the getter of a property -/
def getterOf (K : PySem.W.Frag) (p : Addr) : Addr := match PySem.W.recIn K p "property" with
  | some (.ref g :: _) => g
  | _ => 0
def propB (K : PySem.W.Frag) (C : Addr) (x : Str) : Bool := He.eqO (PySem.W.findIn K (.ref C) x) (some (some (.ref (He.ma K C x)))) && (He.eqO (PySem.W.specialIn K (.ref (He.ma K C x)) "__get__") (some (some (.builtin "property.__get__"))) &&
  (decide (PySem.W.takesIn K (.ref (He.ma K C x)) = some true) && (match PySem.W.recIn K (He.ma K C x) "property" with
    | some (.ref _ :: _) => true
    | _ => false)))
theorem propB_ok {K : PySem.W.Frag} {C : Addr} {x : Str} (h : propB K C x = true) : PropOf K C x (He.ma K C x) (getterOf K (He.ma K C x)) := by
  obtain ⟨h1, h⟩ := He.ba h
  obtain ⟨h2, h⟩ := He.ba h
  obtain ⟨h3, h4⟩ := He.ba h
  refine ⟨He.eqO_ok h1, He.eqO_ok h2, of_decide_eq_true h3, ?_⟩
  unfold getterOf
  cases e : PySem.W.recIn K (He.ma K C x) "property" with
  | none =>
    rw [e] at h4
    cases h4
  | some l =>
    rw [e] at h4
    cases l with
    | nil => cases h4
    | cons v r =>
      cases v with
      | ref g => exact ⟨r, rfl⟩
      | _ => cases h4
/-- what isinstance asks of an own class -/
structure InsF (K : PySem.W.Frag) (C : Addr) : Prop where
  ha : PySem.W.findIn K (.ref C) "__class__" = some (some (.builtin "object.__class__"))
  hn : PySem.W.specialIn K (.builtin "object.__class__") "__get__" = some (some (.builtin "getset_descriptor.__get__"))
  htk : PySem.W.takesIn K (.builtin "object.__class__") = some true
  hm : PySem.W.mroIn K C (.type "object") = some true
def insB (K : PySem.W.Frag) (C : Addr) : Bool := He.eqO (PySem.W.findIn K (.ref C) "__class__") (some (some (.builtin "object.__class__"))) && (He.eqO (PySem.W.specialIn K (.builtin "object.__class__") "__get__") (some (some (.builtin "getset_descriptor.__get__"))) &&
  (decide (PySem.W.takesIn K (.builtin "object.__class__") = some true) && decide (PySem.W.mroIn K C (.type "object") = some true)))
theorem insB_ok {K : PySem.W.Frag} {C : Addr} (h : insB K C = true) : InsF K C := by
  obtain ⟨h1, h⟩ := He.ba h
  obtain ⟨h2, h⟩ := He.ba h
  obtain ⟨h3, h4⟩ := He.ba h
  exact ⟨He.eqO_ok h1, He.eqO_ok h2, of_decide_eq_true h3, of_decide_eq_true h4⟩
def creadB (K : PySem.W.Frag) (C : Addr) : Bool := PySem.W.readsIn K C (.type "type") && He.eqO (PySem.W.specialIn K (.ref C) "__getattribute__") (some (some (.builtin "type.__getattribute__")))
theorem creadB_ok {K : PySem.W.Frag} {C : Addr} (h : creadB K C = true) : ClX.CRead K C (.type "type") := by
  obtain ⟨h1, h2⟩ := He.ba h
  exact ⟨h1, He.eqO_ok h2⟩
def cvalB (K : PySem.W.Frag) (C : Addr) (f : Str) (i : Int) : Bool := match PySem.W.findCls K (.ref C) (.type "type") f with
  | some (.val (.int j _)) => decide (j = i)
  | _ => false
theorem cvalB_ok {K : PySem.W.Frag} {C : Addr} {f : Str} {i : Int} (h : cvalB K C f i = true) : ∃ t, ClX.CVal K C (.type "type") f (.int i) (.int i t) := by
  unfold cvalB at h
  split at h
  · rename_i j t e
    have z := of_decide_eq_true h
    subst z
    exact ⟨t, e, t, rfl⟩
  · cases h
def conM (K : PySem.W.Frag) (C : Addr) (f : Str) (i : Int) : Bool := match PySem.W.findIn K (.ref C) f with
  | some (some (.int j t)) => decide (j = i) && He.eqO (PySem.W.specialIn K (.int j t) "__get__") (some none)
  | _ => false
/-- what the objects at these addresses name -/
def refsM (g : Addr → Option Obj) (as : List Addr) : List Addr := as.flatMap fun a => match g a with
  | some o => He.refsD o
  | none => []
def growM (g : Addr → Option Obj) : Nat → List Addr → List Addr → List Addr
  | 0, all, _ => all
  | n + 1, all, new => growM g n (all ++ ((refsM g new).eraseDups.filter fun a => !all.contains a)) ((refsM g new).eraseDups.filter fun a => !all.contains a)
/-- the module's dict, what these names of it stand for, and what that reaches in four steps -/
def asM (g : Addr → Option Obj) (ns : List Str) : List Addr := mainGlobals :: cStatics :: growM g 4 (ns.map (He.ga (He.frG g [mainGlobals]))) (ns.map (He.ga (He.frG g [mainGlobals])))
abbrev AlM : Type := Bool × List He.FnW
def obsM (n : List Str) (ex : PySem.W.Frag → Bool) (fn : List DefM) (g : Addr → Option Obj) : AlM :=
  (ex (He.frG g (asM g n)) && fn.all fun d => d.ok (He.frG g (asM g n)), fn.map fun d => fnAt (He.frG g (asM g n)) (d.ad (He.frG g (asM g n))))
def valM (fn : List DefM) : AlM := (true, fn.map DefM.val)
structure SaysM (ex : PySem.W.Frag → Bool) (fn : List DefM) (K : PySem.W.Frag) : Prop where
  ex : ex K = true
  ok : ∀ d ∈ fn, d.ok K = true
  fn : ∀ d ∈ fn, fnAt K (d.ad K) = d.val
theorem map_eq_mem {α β : Type} {f g : α → β} : ∀ {l : List α}, l.map f = l.map g → ∀ d ∈ l, f d = g d
  | [], _, d, h => by cases h
  | a :: r, e, d, h => by
    rw [List.map_cons, List.map_cons] at e
    injection e with e1 e2
    rcases List.mem_cons.mp h with z | z
    · rw [z]; exact e1
    · exact map_eq_mem e2 d z
theorem saysM {n : List Str} {ex : PySem.W.Frag → Bool} {fn : List DefM} {g : Addr → Option Obj} (e : obsM n ex fn g = valM fn) : SaysM ex fn (He.frG g (asM g n)) := by
  have e1 : (ex (He.frG g (asM g n)) && fn.all fun d => d.ok (He.frG g (asM g n))) = true := congrArg Prod.fst e
  have e2 : (fn.map fun d => fnAt (He.frG g (asM g n)) (d.ad (He.frG g (asM g n)))) = fn.map DefM.val := congrArg Prod.snd e
  obtain ⟨h1, h2⟩ := He.ba e1
  exact ⟨h1, fun d hd => List.all_eq_true.mp h2 d hd, map_eq_mem e2⟩
def hookM (n : List Str) (ex : PySem.W.Frag → Bool) (fn : List DefM) : PySem.W.Hook where
  α := AlM
  obs := fun s => obsM n ex fn s.heap.get?
  val := fun _ => valM fn
  says := fun _ h => ∃ K : PySem.W.Frag, K.In h ∧ SaysM ex fn K
  of := fun _ s e => ⟨_, He.frG_in, saysM e⟩
  keeps := fun _ _ _ ⟨K, hK, c⟩ k => ⟨K, PySem.W.Frag.In.keeps hK k, c⟩
theorem obsM_eq {n : List Str} {ex : PySem.W.Frag → Bool} {fn : List DefM} {g : Addr → Option Obj} {s : Shared} (h : ∀ a, g a = s.heap.get? a) : obsM n ex fn g = (hookM n ex fn).obs s := by
  have e : g = s.heap.get? := funext h
  rw [e]
  rfl
theorem SaysM.def_ {ex : PySem.W.Frag → Bool} {fn : List DefM} {K : PySem.W.Frag} (c : SaysM ex fn K) {d : DefM} (h : d ∈ fn) : ∃ fd, FunD K d.name d.qual d.params d.body d.scope (d.dvs K) (d.kws K) (d.ad K) fd :=
  DefM.funD (c.fn d h) (c.ok d h)
/-- what the head tells -/
structure Hd (fa : List He.Fa) (ex : PySem.W.Frag → Bool) (fn : List DefM) (K : PySem.W.Frag) (mg : Str → Option Value) : Prop where
  kin : ∃ h : Heap, K.In h ∧ h.Ns mainGlobals mg
  says : SaysM (fun K => (fa.all fun f => f.ok K) && ex K) fn K
section
variable {fa : List He.Fa} {ex : PySem.W.Frag → Bool} {fn : List DefM} {K : PySem.W.Frag} {mg : Str → Option Value} {x f m : Str}
theorem Hd.fact (T : Hd fa ex fn K mg) (i : Nat) {a : He.Fa} (e : fa[i]? = some a) : a.ok K = true :=
  List.all_eq_true.mp (He.ba T.says.ex).1 a (List.mem_of_getElem? e)
theorem Hd.exB (T : Hd fa ex fn K mg) : ex K = true := (He.ba T.says.ex).2
theorem Hd.free (T : Hd fa ex fn K mg) (i : Nat) (e : fa[i]? = some (.free x)) : mg x = none := by
  obtain ⟨h, X, G⟩ := T.kin
  exact He.free_ok X G (T.fact i e)
theorem Hd.glo (T : Hd fa ex fn K mg) (i : Nat) (e : fa[i]? = some (.glo x)) : mg x = some (.ref (He.ga K x)) := by
  obtain ⟨h, X, G⟩ := T.kin
  exact He.glo_ok X G (T.fact i e)
theorem Hd.str (T : Hd fa ex fn K mg) (i : Nat) {z : Str} (e : fa[i]? = some (.str x z)) : ∃ t, mg x = some (.str z t) := by
  obtain ⟨h, X, G⟩ := T.kin
  exact He.str_ok X G (T.fact i e)
theorem Hd.int (T : Hd fa ex fn K mg) (i : Nat) {z : Int} (e : fa[i]? = some (.int x z)) : ∃ t, mg x = some (.int z t) := by
  obtain ⟨h, X, G⟩ := T.kin
  exact He.int_ok X G (T.fact i e)
theorem Hd.cls (T : Hd fa ex fn K mg) (i : Nat) (e : fa[i]? = some (.cls x)) : Cls K (He.ga K x) := He.cls_ok (T.fact i e)
theorem Hd.noat (T : Hd fa ex fn K mg) (i : Nat) (e : fa[i]? = some (.noat x f)) : NoAttr K (He.ga K x) f := He.eqO_ok (show He.eqO _ _ = true from T.fact i e)
theorem Hd.meth (T : Hd fa ex fn K mg) (i : Nat) (e : fa[i]? = some (.meth x m)) : Meth K (He.ga K x) m (He.ma K (He.ga K x) m) := He.meth_ok (T.fact i e)
theorem Hd.mkr (T : Hd fa ex fn K mg) (i : Nat) (e : fa[i]? = some (.mkr x)) : Mk K (He.ga K x) (He.ma K (He.ga K x) "__init__") := He.mkr_ok (T.fact i e)
theorem Hd.fnd (T : Hd fa ex fn K mg) (i : Nat) {d : DefM} (e : fn[i]? = some d) : ∃ fd, FunD K d.name d.qual d.params d.body d.scope (d.dvs K) (d.kws K) (d.ad K) fd :=
  T.says.def_ (List.mem_of_getElem? e)
end
theorem fnIn_of {K : PySem.W.Frag} {x qual : Str} {params : Arguments} {body : List Stmt} {scope : Scope} {dvs : List V} {kws : List (Str × V)} {f : Addr} {fd : FuncData} (F : FunD K x qual params body scope dvs kws f fd) : PySem.W.fnIn K f = true := by
  obtain ⟨oc, od, dV, kV, doc, pm, an, cdv, ct, osl, rfl, lk, _⟩ := F.ex
  unfold PySem.W.fnIn
  rw [lk]
end LS

namespace LK
open PySem PySem.Spec PyProof.Rows L2 LS

def topS (i : Nat) : Stmt := PySem.Challenge.pw_linestrikes_k29_whole_rules_and_narrower.main.body.getD i (.Pass ⟨0, 0, 0, 0⟩)
def faL : List He.Fa := [.free "int",
  .free "len",
  .free "abs",
  .free "set",
  .free "isinstance",
  .free "all",
  .free "any",
  .free "enumerate",
  .free "range",
  .free "zip",
  .free "list",
  .free "tuple",
  .free "str",
  .free "bool",
  .free "sum",
  .str "ALPHABET" "abcdefghijklmnopqrstuvwxyz",
  .glo "Values",
  .cls "Values",
  .mkr "Values",
  .noat "Values" "letters",
  .glo "Cell",
  .cls "Cell",
  .mkr "Cell",
  .noat "Cell" "alphabet",
  .noat "Cell" "number",
  .noat "Cell" "letters",
  .int "MOST_CELLS" 4,
  .glo "Rule",
  .cls "Rule",
  .mkr "Rule",
  .noat "Rule" "alphabet",
  .noat "Rule" "pattern",
  .noat "Rule" "at",
  .noat "Rule" "value",
  .noat "Rule" "left",
  .noat "Rule" "right",
  .noat "Rule" "numbers",
  .noat "Rule" "bit",
  .glo "Line",
  .cls "Line",
  .mkr "Line",
  .noat "Line" "alphabet",
  .noat "Line" "row",
  .glo "is_letters",
  .glo "is_cell_string",
  .meth "Values" "__eq__",
  .meth "Values" "__len__",
  .meth "Values" "cell",
  .meth "Cell" "need_like",
  .meth "Cell" "within",
  .meth "Cell" "__or__",
  .meth "Cell" "__contains__",
  .meth "Cell" "__bool__",
  .glo "cell_told",
  .glo "is_index",
  .glo "is_whole",
  .glo "pattern_of",
  .meth "Rule" "need_values",
  .meth "Rule" "holds",
  .meth "Rule" "strikes_in",
  .meth "Rule" "spans",
  .glo "item_of",
  .meth "Line" "__len__",
  .glo "numbers_of",
  .meth "Rule" "fits",
  .meth "Rule" "hits",
  .meth "Line" "need_like",
  .meth "Line" "within",
  .meth "Line" "__or__",
  .meth "Line" "need_place",
  .meth "Line" "__getitem__",
  .glo "_law_pen",
  .glo "_law_draw",
  .glo "_law_pick",
  .glo "_law_letters",
  .glo "_law_text",
  .glo "_law_cell",
  .glo "_law_plan",
  .glo "_law_rule",
  .glo "_law_line",
  .glo "_law_part",
  .glo "_law_near",
  .glo "_law_wider",
  .glo "_law_narrow_right",
  .glo "law"]
def exL : List (PySem.W.Frag → Bool) := [fun K => insB K (He.ga K "Values"),
  fun K => PySem.W.selfFirst K (He.ga K "Values"),
  fun K => insB K (He.ga K "Cell"),
  fun K => PySem.W.selfFirst K (He.ga K "Cell"),
  fun K => insB K (He.ga K "Rule"),
  fun K => PySem.W.selfFirst K (He.ga K "Rule"),
  fun K => insB K (He.ga K "Line"),
  fun K => PySem.W.selfFirst K (He.ga K "Line"),
  fun K => creadB K (He.ga K "Line"),
  fun K => cvalB K (He.ga K "Line") "LONGEST" 4001,
  fun K => decide (He.ga K "Rule" ≠ He.ga K "Cell"),
  fun K => decide (He.ga K "Rule" ≠ He.ga K "Values"),
  fun K => decide (He.ga K "Line" ≠ He.ga K "Cell"),
  fun K => decide (He.ga K "Line" ≠ He.ga K "Values"),
  fun K => decide (PySem.W.kitOne K (.ref (He.ga K "Line")) (.ref (He.ga K "Line")) = some true),
  fun K => decide (PySem.W.kitOne K (.ref (He.ga K "Rule")) (.ref (He.ga K "Rule")) = some true),
  fun K => decide (PySem.W.kitOne K (.ref (He.ga K "Values")) (.ref (He.ga K "Values")) = some true),
  fun K => decide (PySem.W.kitOne K (.ref (He.ga K "Cell")) (.ref (He.ga K "Cell")) = some true),
  fun K => decide (PySem.W.kitOne K (.ref (He.ga K "Cell")) (.ref (He.ga K "Values")) = some false),
  fun K => decide (PySem.W.kitOne K (.type "str") (.ref (He.ga K "Cell")) = some false),
  fun K => PySem.W.notFirst K (He.ga K "Values") (.ref (He.ga K "Values")),
  fun K => PySem.W.notFirst K (He.ga K "Cell") (.ref (He.ga K "Cell")),
  fun K => creadB K (He.ga K "Values"),
  fun K => cvalB K (He.ga K "Values") "MOST" 4,
  fun K => propB K (He.ga K "Line") "cells"]
def exB (K : PySem.W.Frag) : Bool := exL.all fun p => p K
def fnL : List DefM := [⟨fun K => He.ga K "is_letters", "is_letters", "is_letters", defArgs (topS 16), defBody (topS 16), defScope (topS 16), [], []⟩,
  ⟨fun K => He.ga K "is_cell_string", "is_cell_string", "is_cell_string", defArgs (topS 17), defBody (topS 17), defScope (topS 17), [], []⟩,
  ⟨fun K => He.ma K (He.ga K "Values") "__init__", "__init__", "Values.__init__", defArgs (inClass (topS 21) 1), defBody (inClass (topS 21) 1), defScope (inClass (topS 21) 1), [], []⟩,
  ⟨fun K => He.ma K (He.ga K "Values") "__eq__", "__eq__", "Values.__eq__", defArgs (inClass (topS 21) 11), defBody (inClass (topS 21) 11), defScope (inClass (topS 21) 11), [], []⟩,
  ⟨fun K => He.ma K (He.ga K "Values") "__len__", "__len__", "Values.__len__", defArgs (inClass (topS 21) 10), defBody (inClass (topS 21) 10), defScope (inClass (topS 21) 10), [], []⟩,
  ⟨fun K => He.ma K (He.ga K "Cell") "__init__", "__init__", "Cell.__init__", defArgs (inClass (topS 20) 0), defBody (inClass (topS 20) 0), defScope (inClass (topS 20) 0), [], []⟩,
  ⟨fun K => He.ma K (He.ga K "Values") "cell", "cell", "Values.cell", defArgs (inClass (topS 21) 3), defBody (inClass (topS 21) 3), defScope (inClass (topS 21) 3), [], []⟩,
  ⟨fun K => He.ma K (He.ga K "Cell") "need_like", "need_like", "Cell.need_like", defArgs (inClass (topS 20) 1), defBody (inClass (topS 20) 1), defScope (inClass (topS 20) 1), [], []⟩,
  ⟨fun K => He.ma K (He.ga K "Cell") "within", "within", "Cell.within", defArgs (inClass (topS 20) 3), defBody (inClass (topS 20) 3), defScope (inClass (topS 20) 3), [], []⟩,
  ⟨fun K => He.ma K (He.ga K "Cell") "__or__", "__or__", "Cell.__or__", defArgs (inClass (topS 20) 5), defBody (inClass (topS 20) 5), defScope (inClass (topS 20) 5), [], []⟩,
  ⟨fun K => He.ma K (He.ga K "Cell") "__contains__", "__contains__", "Cell.__contains__", defArgs (inClass (topS 20) 10), defBody (inClass (topS 20) 10), defScope (inClass (topS 20) 10), [], []⟩,
  ⟨fun K => He.ma K (He.ga K "Cell") "__bool__", "__bool__", "Cell.__bool__", defArgs (inClass (topS 20) 12), defBody (inClass (topS 20) 12), defScope (inClass (topS 20) 12), [], []⟩,
  ⟨fun K => He.ga K "cell_told", "cell_told", "cell_told", defArgs (topS 22), defBody (topS 22), defScope (topS 22), [], []⟩,
  ⟨fun K => He.ga K "is_index", "is_index", "is_index", defArgs (topS 25), defBody (topS 25), defScope (topS 25), [], []⟩,
  ⟨fun K => He.ga K "is_whole", "is_whole", "is_whole", defArgs (topS 15), defBody (topS 15), defScope (topS 15), [], []⟩,
  ⟨fun K => He.ga K "pattern_of", "pattern_of", "pattern_of", defArgs (topS 30), defBody (topS 30), defScope (topS 30), [], []⟩,
  ⟨fun K => He.ma K (He.ga K "Rule") "__init__", "__init__", "Rule.__init__", defArgs (inClass (topS 31) 1), defBody (inClass (topS 31) 1), defScope (inClass (topS 31) 1), [], [("left", .bl false), ("right", .bl false)]⟩,
  ⟨fun K => He.ma K (He.ga K "Rule") "need_values", "need_values", "Rule.need_values", defArgs (inClass (topS 31) 3), defBody (inClass (topS 31) 3), defScope (inClass (topS 31) 3), [], []⟩,
  ⟨fun K => He.ma K (He.ga K "Rule") "holds", "holds", "Rule.holds", defArgs (inClass (topS 31) 4), defBody (inClass (topS 31) 4), defScope (inClass (topS 31) 4), [], []⟩,
  ⟨fun K => He.ma K (He.ga K "Rule") "strikes_in", "strikes_in", "Rule.strikes_in", defArgs (inClass (topS 31) 5), defBody (inClass (topS 31) 5), defScope (inClass (topS 31) 5), [], []⟩,
  ⟨fun K => He.ma K (He.ga K "Rule") "spans", "spans", "Rule.spans", defArgs (inClass (topS 31) 6), defBody (inClass (topS 31) 6), defScope (inClass (topS 31) 6), [], []⟩,
  ⟨fun K => He.ga K "item_of", "item_of", "item_of", defArgs (topS 34), defBody (topS 34), defScope (topS 34), [], []⟩,
  ⟨fun K => He.ma K (He.ga K "Line") "__init__", "__init__", "Line.__init__", defArgs (inClass (topS 38) 1), defBody (inClass (topS 38) 1), defScope (inClass (topS 38) 1), [], []⟩,
  ⟨fun K => getterOf K (He.ma K (He.ga K "Line") "cells"), "cells", "Line.cells", defArgs (inClass (topS 38) 5), defBody (inClass (topS 38) 5), defScope (inClass (topS 38) 5), [], []⟩,
  ⟨fun K => He.ma K (He.ga K "Line") "__len__", "__len__", "Line.__len__", defArgs (inClass (topS 38) 18), defBody (inClass (topS 38) 18), defScope (inClass (topS 38) 18), [], []⟩,
  ⟨fun K => He.ga K "numbers_of", "numbers_of", "numbers_of", defArgs (topS 32), defBody (topS 32), defScope (topS 32), [], []⟩,
  ⟨fun K => He.ma K (He.ga K "Rule") "fits", "fits", "Rule.fits", defArgs (inClass (topS 31) 7), defBody (inClass (topS 31) 7), defScope (inClass (topS 31) 7), [], []⟩,
  ⟨fun K => He.ma K (He.ga K "Rule") "hits", "hits", "Rule.hits", defArgs (inClass (topS 31) 8), defBody (inClass (topS 31) 8), defScope (inClass (topS 31) 8), [], []⟩,
  ⟨fun K => He.ma K (He.ga K "Line") "need_like", "need_like", "Line.need_like", defArgs (inClass (topS 38) 9), defBody (inClass (topS 38) 9), defScope (inClass (topS 38) 9), [], []⟩,
  ⟨fun K => He.ma K (He.ga K "Line") "within", "within", "Line.within", defArgs (inClass (topS 38) 12), defBody (inClass (topS 38) 12), defScope (inClass (topS 38) 12), [], []⟩,
  ⟨fun K => He.ma K (He.ga K "Line") "__or__", "__or__", "Line.__or__", defArgs (inClass (topS 38) 24), defBody (inClass (topS 38) 24), defScope (inClass (topS 38) 24), [], []⟩,
  ⟨fun K => He.ma K (He.ga K "Line") "need_place", "need_place", "Line.need_place", defArgs (inClass (topS 38) 10), defBody (inClass (topS 38) 10), defScope (inClass (topS 38) 10), [], []⟩,
  ⟨fun K => He.ma K (He.ga K "Line") "__getitem__", "__getitem__", "Line.__getitem__", defArgs (inClass (topS 38) 19), defBody (inClass (topS 38) 19), defScope (inClass (topS 38) 19), [], []⟩,
  ⟨fun K => He.ga K "_law_pen", "_law_pen", "_law_pen", defArgs (topS 40), defBody (topS 40), defScope (topS 40), [], []⟩,
  ⟨fun K => He.ga K "_law_draw", "_law_draw", "_law_draw", defArgs (topS 41), defBody (topS 41), defScope (topS 41), [], []⟩,
  ⟨fun K => He.ga K "_law_pick", "_law_pick", "_law_pick", defArgs (topS 42), defBody (topS 42), defScope (topS 42), [], []⟩,
  ⟨fun K => He.ga K "_law_letters", "_law_letters", "_law_letters", defArgs (topS 43), defBody (topS 43), defScope (topS 43), [], []⟩,
  ⟨fun K => He.ga K "_law_text", "_law_text", "_law_text", defArgs (topS 44), defBody (topS 44), defScope (topS 44), [], []⟩,
  ⟨fun K => He.ga K "_law_cell", "_law_cell", "_law_cell", defArgs (topS 45), defBody (topS 45), defScope (topS 45), [], []⟩,
  ⟨fun K => He.ga K "_law_plan", "_law_plan", "_law_plan", defArgs (topS 47), defBody (topS 47), defScope (topS 47), [], []⟩,
  ⟨fun K => He.ga K "_law_rule", "_law_rule", "_law_rule", defArgs (topS 48), defBody (topS 48), defScope (topS 48), [], []⟩,
  ⟨fun K => He.ga K "_law_line", "_law_line", "_law_line", defArgs (topS 49), defBody (topS 49), defScope (topS 49), [], []⟩,
  ⟨fun K => He.ga K "_law_part", "_law_part", "_law_part", defArgs (topS 50), defBody (topS 50), defScope (topS 50), [], []⟩,
  ⟨fun K => He.ga K "_law_near", "_law_near", "_law_near", defArgs (topS 51), defBody (topS 51), defScope (topS 51), [], []⟩,
  ⟨fun K => He.ga K "_law_wider", "_law_wider", "_law_wider", defArgs (topS 52), defBody (topS 52), defScope (topS 52), [], []⟩,
  ⟨fun K => He.ga K "_law_narrow_right", "_law_narrow_right", "_law_narrow_right", defArgs (topS 53), defBody (topS 53), defScope (topS 53), [], []⟩,
  ⟨fun K => He.ga K "law", "law", "law", defArgs (topS 54), defBody (topS 54), defScope (topS 54), [], []⟩]
abbrev HD (K : PySem.W.Frag) (mg : Str → Option Value) : Prop := Hd faL exB fnL K mg
/-! ### the head -/
def nm0 : List Str := ["_wall", "__name__", "LineError", "BadInput", "NoAnswer", "BadValues", "BadCell", "BadLine", "BadRule", "NoCell", "Unlike", "BadText", "Clash", "ALPHABET", "is_whole", "is_letters", "is_cell_string", "is_cell_text", "is_number_text", "Cell", "Values", "cell_told", "MOST_CELLS", "is_index", "need_word", "word_at", "cells_from", "rule_parts", "pattern_of", "Rule"]
def nm1 : List Str := ["numbers_of", "item_of", "texts_of_cells", "later_spots", "Narrower", "Line", "_law_pen", "_law_draw", "_law_pick", "_law_letters", "_law_text", "_law_cell", "_law_row", "_law_plan", "_law_rule", "_law_line", "_law_part", "_law_near", "_law_wider", "_law_narrow_right"]
abbrev loose : List Str := nm0 ++ nm1
def needed : List Str := ["Cell", "Line", "Rule", "Values", "_law_cell", "_law_draw", "_law_letters", "_law_line", "_law_narrow_right", "_law_near", "_law_part", "_law_pen", "_law_pick", "_law_plan", "_law_rule", "_law_text", "_law_wider", "cell_told", "is_cell_string", "is_index", "is_letters", "is_whole", "item_of", "law", "numbers_of", "pattern_of"]
def exAll (K : PySem.W.Frag) : Bool := (faL.all fun f => f.ok K) && exB K
abbrev R : PySem.W.OpenRow := PySem.W.OpenLaw.row PySem.Challenge.rw_linestrikes_k29_whole_rules_and_narrower
abbrev hk : PySem.W.Hook := hookM needed exAll fnL
def ob (s : PySem.W.SharedT) : AlM := obsM needed exAll fnL (HandSHeadRun.getT s)
theorem ob_eq (s : PySem.W.SharedT) : ob s = hk.obs s.abs := obsM_eq (HandSHeadRun.getT_eq s)
theorem run (w : World) : HandSHeadRun.RunEq R (PySem.W.view R.prog [54]) hk ob 12000 loose w := by
  intro os
  kernel_rfl
end LK
/-! Line strikes, layer A: set(text), enumerate(text). -/
namespace LS
open PySem PySem.Spec PyProof.Rows L2

/-- how many of the first i signs are met for the first time -/
def fresh (cs : List Nat) : Nat → Nat
  | 0 => 0
  | i + 1 => fresh cs i + (if (cs.take i).contains (cs.getD i 0) then 0 else 1)
theorem fresh_le (cs : List Nat) : ∀ i, fresh cs i ≤ i
  | 0 => Nat.le_refl 0
  | i + 1 => by
    have := fresh_le cs i
    unfold fresh
    split <;> omega
def sgn (c : Nat) : Str := ⟨#[c]⟩
theorem sgn_inj {a b : Nat} : sgn a = sgn b ↔ a = b := by
  constructor
  · intro h
    have h2 : (#[a] : Array Nat) = #[b] := congrArg Str.cps h
    simpa using h2
  · intro h; rw [h]
theorem any_sgn (l : List Nat) (c : Nat) : (l.map sgn).any (· == sgn c) = l.contains c := by
  induction l with
  | nil => rfl
  | cons x r ih =>
    rw [List.map_cons, List.any_cons, ih, List.contains_cons]
    by_cases e : x = c
    · subst e; simp
    · have h1 : (sgn x == sgn c) = false := beq_eq_false_iff_ne.mpr fun z => e (sgn_inj.mp z)
      have h2 : (c == x) = false := beq_eq_false_iff_ne.mpr fun z => e z.symm
      rw [h1, h2]
/-- no sign comes twice -/
theorem fresh_nodup (cs : List Nat) : ∀ i, i ≤ cs.length → (fresh cs i = i ↔ (cs.take i).Nodup)
  | 0, _ => by simp [fresh]
  | i + 1, h => by
    have hi : i < cs.length := by omega
    have ih := fresh_nodup cs i (by omega)
    have hle := fresh_le cs i
    have hg : cs.getD i 0 = cs[i] := by simp [List.getD, hi]
    have ht : cs.take (i + 1) = cs.take i ++ [cs[i]] := by rw [List.take_add_one, List.getElem?_eq_getElem hi]; rfl
    rw [ht, List.nodup_append]
    unfold fresh
    rw [hg]
    by_cases hc : (cs.take i).contains cs[i] = true
    · rw [if_pos hc]
      have hm : cs[i] ∈ cs.take i := by simpa using hc
      constructor
      · intro e; omega
      · intro ⟨_, _, z⟩
        exact absurd rfl (z _ hm _ (by simp))
    · rw [if_neg hc]
      have hm : cs[i] ∉ cs.take i := by simpa using hc
      constructor
      · intro e
        refine ⟨ih.mp (by omega), by simp, fun a ha b hb => ?_⟩
        have : b = cs[i] := by simpa using hb
        rw [this]
        intro z
        exact hm (z ▸ ha)
      · intro ⟨z, _⟩
        have := ih.mpr z
        omega

section
variable {prog : Program} {w : World} {A : Around} {R : Result → Shared → Prop} {I : Addr} {fp wr : List Addr} {G : Array GenState → Array GenState → Prop} {St : Nat → Shared → Prop}
def inSet (cs : List Nat) (i : Nat) : Str → Bool := fun y => ((cs.take i).map sgn).any (· == y)
theorem setLoop {x : Str} (W : WalksS prog w A.in1 I fp wr G x.cps.size (SignAt x) St) (S : Addr) (hSf : S ∉ fp) (hb : x.cps.size + 1 < scanBound) :
    ∀ (k i : Nat) (s : Shared), x.cps.size - i = k → i ≤ x.cps.size → St i s → s.heap.SetOf (PySem.strKind prog w) S (inSet x.cps.toList i) (fresh x.cps.toList i) →
      (∀ s', Moved (S :: wr) G s s' → s'.heap.SetOf (PySem.strKind prog w) S (inSet x.cps.toList x.cps.size) (fresh x.cps.toList x.cps.size) → R (.ok (.ret .none)) s') →
      codeAny (model prog w) A (.builtin "set.update.loop" ⟨[.ref S, .ref I], []⟩) R s := by
  have nSw : S ∉ wr := fun z => hSf (W.sub _ z)
  have up : ∀ b ∈ wr, b ∈ S :: wr := fun b z => List.mem_cons_of_mem _ z
  have keepS : ∀ {s s' : Shared} {T : Str → Bool} {m : Nat}, Moved wr G s s' → s.heap.SetOf (PySem.strKind prog w) S T m → s'.heap.SetOf (PySem.strKind prog w) S T m := fun mv z => by
    obtain ⟨ob, e1, e2, e3, e4, e5⟩ := z
    exact ⟨ob, e1, e2, e3, mv.heap S _ nSw e4, e5⟩
  intro k
  induction k with
  | zero =>
    intro i s hk hi hst hS hR
    have ei : i = x.cps.size := by omega
    subst ei
    refine codeAny_builtin PyProof.Rows.F.entry_set_update_loop ?_
    rw [Around.under_plainId PyProof.Rows.F.plain_set_update_loop _]
    show wpAny _ A.in1 (pyNext (.ref I) >>= _) _ _ s
    refine wpAny_bind (W.done s _ _ hst fun s2 mv => ?_)
    show wpAny _ A.in1 (ret Value.none) _ _ s2
    exact wpAny_pure (hR s2 (mv.mono up) (keepS mv hS))
  | succ k ih =>
    intro i s hk hi hst hS hR
    have hlt : i < x.cps.size := by omega
    refine codeAny_builtin PyProof.Rows.F.entry_set_update_loop ?_
    rw [Around.under_plainId PyProof.Rows.F.plain_set_update_loop _]
    show wpAny _ A.in1 (pyNext (.ref I) >>= _) _ _ s
    refine wpAny_bind (W.item i s _ _ hlt hst fun v s2 hP hst2 mv => ?_)
    obtain ⟨c, t, hc, rfl⟩ := hP
    have hS2 := keepS mv hS
    show wpAny _ A.in1 (holding [Value.str (sgn c) t] (setAdd S (.str (sgn c) t)) >>= _) _ _ s2
    refine wpAny_bind (wpAny_holding ?_)
    unfold setAdd
    refine wpAny_holding (wpAny_bind ((PySem.strKind prog w).pyHash (k := sgn c) (strKind_is _ _ _ _) ?_))
    have hf := fresh_le x.cps.toList i
    refine wpAny_setAddHashed_of (knd := PySem.strKind prog w) (s := { s2 with toks := s2.toks + 1 }) (strKind_is _ _ _ _) rfl hS2 (by omega) fun h3 sb hS3 => ?_
    have hget : x.cps.toList[i]? = some c := by simpa using hc
    have hgd : x.cps.toList.getD i 0 = c := by
      rw [List.getD_eq_getElem?_getD, hget]
      rfl
    have hS4 : h3.SetOf (PySem.strKind prog w) S (inSet x.cps.toList (i + 1)) (fresh x.cps.toList (i + 1)) := by
      refine SetOf_congr hS3 (fun y => ?_) ?_
      · unfold inSet
        rw [List.take_add_one, hget, List.map_append, List.any_append]
        show (_ || decide (y = sgn c)) = (_ || (sgn c == y || false))
        rw [Bool.or_false]
        congr 1
        by_cases e : y = sgn c
        · subst e; simp
        · rw [decide_eq_false e]
          exact (beq_eq_false_iff_ne.mpr fun z => e z.symm).symm
      · show (if inSet x.cps.toList i (sgn c) = true then fresh x.cps.toList i else fresh x.cps.toList i + 1) = fresh x.cps.toList (i + 1)
        unfold inSet
        rw [any_sgn]
        show _ = fresh x.cps.toList i + (if (x.cps.toList.take i).contains (x.cps.toList.getD i 0) then 0 else 1)
        rw [hgd]
        split <;> rfl
    refine wpAny_pure ⟨plainId_quiet PyProof.Rows.F.plain_set_update_loop _, ih (i + 1) _ (by omega) hlt (W.frame _ s2 _ _ hst2 (Nat.le_succ _) fun b z ob e => ?_) hS4 fun s5 mv5 hS5 => ?_⟩
    · have nb : b ≠ S := fun q => hSf (q ▸ z)
      exact (sb.2 b nb).trans e
    · refine hR s5 (Moved.trans W.gtrans ((mv.mono up).then_heap (Nat.le_succ _) fun b ob z e => ?_) mv5) hS5
      have nb : b ≠ S := fun q => z (q ▸ List.mem_cons_self)
      exact (sb.2 b nb).trans e
end
theorem sub_str_set : isSubtype (.type "str") (.type "set") = pure false := by
  rw [isSubtype_type]
  kernel_rfl
theorem sub_str_frozenset : isSubtype (.type "str") (.type "frozenset") = pure false := by
  rw [isSubtype_type]
  kernel_rfl
section
variable {prog : Program} {w : World} {A : Around} {E : Value → Shared → Prop} {s : Shared}
abbrev newSet (led : Bool) : Obj := { cls := .type "set", dict := none, data := .set #[] 0 (.fresh 0 0 led) }
theorem call_set_text {x : Str} {t : Tok} {Q : Value → Shared → Prop} (hh : A.handled = none) (hb : x.cps.size + 1 < scanBound)
    (h : ∀ (h' : Heap) (tk : Nat), h'.SetOf (PySem.strKind prog w) s.heap.objs.size (inSet x.cps.toList x.cps.size) (fresh x.cps.toList x.cps.size) →
      (∀ b o, b < s.heap.objs.size → s.heap.get? b = some o → h'.get? b = some o) → Q (.ref s.heap.objs.size) { s with heap := h', toks := tk }) :
    wpAny (model prog w) A (call (.type "set") [.str x t]) Q E s := by
  obtain ⟨cl, tl, hmro⟩ := PySem.F.called_set.mro
  have hm1 := PySem.F.called_set.made
  have hm2 := PySem.F.called_set.sub
  refine wpAny_call (codeAny_of_tree ?_)
  show wpAny _ _ (callAny (.type "set") _) _ _ _
  refine wpAny_pure ⟨Code.quiet_builtin _ (by decide +kernel), codeAny_builtin PySem.F.entry_type_call ?_⟩
  rw [Around.under_plain (weight_type_call_type "set" [.str x t] []) rfl]
  have q1 := PySem.F.called_set.notType
  have q2 := PySem.F.called_set.canCreate
  have q3 := PySem.F.typeCall_set_1 (.str x t)
  repeat (any_goals (first | assumption | wp_step))
  refine codeAny_mono (code_set_new_1 (.str x t) (E := E) (Q₁ := fun ob s1 => ∃ led : Bool, ob = .ref s.heap.objs.size ∧ s1 = { s with heap := s.heap.push (newSet led) }) fun led => ⟨led, rfl, rfl⟩) fun r s1 hr => ?_
  cases r with
  | error e => exact hr
  | ok fl =>
    cases fl with
    | ret ob =>
      obtain ⟨led, rfl, rfl⟩ := hr
      have hS : (s.heap.push (newSet led)).get? s.heap.objs.size = some (newSet led) := Heap.get?_push_size _ rfl
      have hT : Shared.TypeIs { s with heap := s.heap.push (newSet led) } (.ref s.heap.objs.size) "set" := ⟨_, hS, rfl⟩
      have q4 := PySem.F.called_set.init.lookup
      have q5 := PySem.F.called_set.init.bind (.ref s.heap.objs.size)
      repeat (any_goals (first | assumption | wp_step))
      refine codeAny_mono (codeAny_call_builtin (R := wants (fun r s2 => r = .none ∧ ∃ h' tk, s2 = { s with heap := h', toks := tk } ∧
          h'.SetOf (PySem.strKind prog w) s.heap.objs.size (inSet x.cps.toList x.cps.size) (fresh x.cps.toList x.cps.size) ∧
          (∀ b o, b < s.heap.objs.size → s.heap.get? b = some o → h'.get? b = some o)) E) PySem.F.called_set.init.plain PySem.F.entry_set_init (check_set_init_1 hT ?_)) fun r2 s2 hr2 => ?_
      · have q6 := sub_str_set
        have q7 := sub_str_frozenset
        have q8 : (Value.type "str" == Value.type "dict") = false := by decide
        unfold Builtin.«set.__init__» noKeywords Builtin.Frozenset.updateFrom
        generalize hPI : pyIter = PI
        wp_walk
        subst hPI
        refine wpAny_pyIter_str fun o St W hst => ?_
        refine wpAny_bind (wpAny_runValue ?_)
        have hh3 : A.in1.in1.in1.handled = none := by simp [hh]
        have hz : (s.heap.push (newSet led)).objs.size = s.heap.objs.size + 1 := Heap.size_push ..
        have nS : s.heap.objs.size ∉ [(s.heap.push (newSet led)).objs.size] := by
          rw [hz]
          intro z
          have := List.mem_singleton.mp z
          omega
        refine setLoop (W _ hh3).toS s.heap.objs.size nS hb (x.cps.size - 0) 0 _ rfl (Nat.zero_le _) hst ?_ ?_
        · have hg : ((s.heap.push (newSet led)).push o).get? s.heap.objs.size = some (newSet led) := Heap.get?_push_of_some _ hS
          exact SetOf_congr ((setObjOf_fresh (knd := PySem.strKind prog w) led).setOf hg (by unfold scanBound; omega)) (fun _ => rfl) rfl
        · intro s3 mv hS3
          obtain ⟨h3, g3, d3, t3, o3⟩ := s3
          have eg : g3 = s.gens := mv.gens
          have ed : d3 = s.drawn := mv.drawn
          have eo : o3 = s.os := mv.os
          subst eg ed eo
          show wpAny _ _ _ _ _ _
          refine wpAny_pure ?_
          show wpAny _ _ (ret Value.none) _ _ _
          refine wpAny_pure ⟨rfl, h3, t3, rfl, hS3, fun b ob lt e => mv.heap b ob (fun z => ?_) (Heap.get?_push_of_some _ (Heap.get?_push_of_some _ e))⟩
          rcases List.mem_cons.mp z with z | z
          · exact absurd z (Nat.ne_of_lt lt)
          · have z2 : b = s.heap.objs.size + 1 := (List.mem_singleton.mp z).trans hz
            exact absurd z2 (Nat.ne_of_lt (Nat.lt_succ_of_lt lt))
      · cases r2 with
        | error e => exact hr2
        | ok fl2 =>
          cases fl2 with
          | ret r =>
            obtain ⟨rfl, h3, tk, rfl, hS3, kp⟩ := hr2
            repeat (any_goals (first | assumption | wp_step))
            exact h _ _ hS3 kp
          | _ => exact hr2.elim
    | _ => exact hr.elim
end

section
variable {X : Cx}
/-- len(set(z)), z a text -/
def tLenSetT (ta : TE) : TE := fun σ H Q => ta σ H fun x H1 => ∃ z : Str, x = .str z ∧ z.cps.size ≤ 4000 ∧ Q (.int (fresh z.cps.toList z.cps.size)) H1
theorem pe_lenSetT {a : Expr} {ta : TE} {p p2 q pos : Pos} (hc : X.calm = true) (hg : Gl X "len") (hm : X.mg "len" = none) (hg2 : Gl X "set") (hm2 : X.mg "set" = none) (ha : PE X a ta)
    (na : starEach [a] X.env = (false, eval a X.env) :: starEach [] X.env := by rfl) : PE X (.Call (.Name "len" p) [.Call (.Name "set" p2) [a] [] q] [] pos) (tLenSetT ta) := by
  refine ⟨fun pins s σ H Q I h => ?_⟩
  refine Call_ (ld_blt I hg hm boot_len (callWith_builtin1 (args_cons ?_ rfl) rfl rfl))
  refine Call_ (ld_blt I hg2 hm2 boot_set (callWith_type1 (args_cons (thn (ha.run pins s σ H _ I h) fun v s1 ⟨y, H1, I1, r1, q1⟩ => args_nil ?_) na) na rfl))
  obtain ⟨z, rfl, hz, q1⟩ := q1
  obtain ⟨t, rfl⟩ := r1
  refine call_set_text (I1.ok.hd hc) (by unfold scanBound; omega) fun h' tk hS kp => args_nil ?_
  obtain ⟨o, es, ep, tb, ho, hex, hd, _, _, _, hf, hn⟩ := hS
  have I2 : Inv X pins σ H1 { s1 with heap := h', toks := tk } := I1.kept fun b ob e => kp b ob (Heap.lt_size e) e
  have hle := fresh_le z.cps.toList z.cps.size
  exact call_len_set ho hex hd hf (by rw [hn]; omega) ⟨.int (fresh z.cps.toList z.cps.size), H1, I2.tok _, ⟨_, by rw [hn]⟩, q1⟩
end

/-! ### enumerate(text) -/
/-- the text's signs, each in a new pair -/
def Ites (x : Str) : It :=
  ⟨fun i _ => i < x.cps.size, fun i H v H' => ∃ T c, v = .ref T ∧ H T = none ∧ H' = upd H T (.tup [.int (i : Nat), .str ⟨#[c]⟩]) ∧ x.cps[i]? = some c, fun i _ => x.cps.size ≤ i⟩
theorem strDraws {P : Program} {w : World} {A : Around} (hh : A.handled = none) (it : Addr) (x : Str) (t : Tok) :
    Draws P w A it [it] x.cps.size (fun i v => ∃ c u, x.cps[i]? = some c ∧ v = .str ⟨#[c]⟩ u) (fun i h => h.IsStrIter it (strIterType x) x t i) := by
  unfold strIterType
  cases x.cps.all (· < 128)
  · exact Draws.strWide hh it x t
  · exact Draws.strAscii hh it x t
theorem turn_enumT {P : Program} {w : World} {K : PySem.W.Frag} {elts : List Expr} {kk : Nat} {tpos : Pos} (x : Str) (t : Tok) (e it : Addr) (hne : e ≠ it) :
    Turn P w K (.Tuple elts kk tpos) (Ites x) [e, it] e (fun i h => (∃ old, IsEnum h e it ((i : Nat) : Int) old) ∧ h.IsStrIter it (strIterType x) x t i ∧ i ≤ x.cps.size) where
  mem := by simp
  obj := fun i h st b hb => by
    obtain ⟨⟨old, he⟩, ⟨o, ho, hc, hd⟩, _⟩ := st
    rcases (show b = e ∨ b = it by simpa using hb) with z | z
    · rw [z]
      exact ⟨_, he, fun v q => nomatch q⟩
    · rw [z]
      exact ⟨o, ho, fun v q => by rw [hd] at q; cases q⟩
  keep := fun i h h' st k => by
    obtain ⟨⟨old, he⟩, ⟨o, ho, r⟩, hi⟩ := st
    exact ⟨⟨old, k e (by simp) _ he⟩, ⟨o, k it (by simp) o ho, r⟩, hi⟩
  item := by
    intro X hP hw hK hc i pins s σ H E I hf st hg
    subst hP hw hK
    obtain ⟨⟨old, he⟩, hit, _⟩ := st
    have le : e < s.heap.objs.size := Heap.lt_size he
    have li : it < s.heap.objs.size := by
      obtain ⟨_, z, _⟩ := hit
      exact Heap.lt_size z
    refine wpAny_pyNext_enum_itemD (strDraws (by simp [I.ok.hd hc]) it x t) he hit hg hne (by simpa using hne) fun v h1 tk hP ho hit1 hT hz kp => ?_
    obtain ⟨c, u, hx, rfl⟩ := hP
    refine ⟨_, rfl, wpAny_letOwnedTupleGo_enum (s := { s with heap := h1, toks := tk + 1 }) ho fun h2 he2 sb => ?_⟩
    have hT2 : h2.get? s.heap.objs.size = some { cls := .type "tuple", data := .seq #[.int i tk, .str ⟨#[c]⟩ u] } := (sb.2 _ (Nat.ne_of_gt le)).trans hT
    have nw : ObjOk X.prog X.w (upd H s.heap.objs.size (.tup [.int (i : Nat), .str ⟨#[c]⟩])) h2 s.heap.objs.size (.tup [.int (i : Nat), .str ⟨#[c]⟩]) :=
      ⟨by show 2 ≤ sizeLine; decide, [.int i tk, .str ⟨#[c]⟩ u], .cons ⟨_, rfl⟩ (.cons ⟨_, rfl⟩ .nil), ⟨_, hT2, rfl, _, rfl⟩⟩
    have I1 : Inv X pins σ (upd H s.heap.objs.size (.tup [.int (i : Nat), .str ⟨#[c]⟩])) { s with heap := h2, toks := tk + 1 } :=
      I.turnedNew (ch := [e, it]) (fun b ob nb q => (sb.2 b (fun z => nb (by simp [z]))).trans (kp b ob (fun z => nb (by simp [z])) (fun z => nb (by simp [z])) q)) hf (Nat.le_refl _) nw
    refine ⟨.ref s.heap.objs.size, _, I1, rfl, ⟨_, c, rfl, I.hok.fresh (Nat.le_refl _), rfl, hx⟩, ⟨⟨.str ⟨#[c]⟩ u, ?_⟩, ?_, hg⟩, fun b nb => ?_⟩
    · have ei : ((i + 1 : Nat) : Int) = (i : Int) + 1 := by omega
      rw [ei]
      exact he2
    · obtain ⟨o, q, r⟩ := hit1
      exact ⟨o, (sb.2 it (Ne.symm hne)).trans q, r⟩
    · have lb : b < s.heap.objs.size := by
        rcases (show b = e ∨ b = it by simpa using nb) with z | z <;> rw [z] <;> assumption
      rw [upd_ne (Nat.ne_of_lt lb)]
      exact (hf b nb).1
  done := by
    intro X hP hw hK hc i pins s σ H E I hf st hg
    subst hP hw hK
    obtain ⟨⟨old, he⟩, hit, hi⟩ := st
    obtain ⟨f0, f1, f2, f3, f4, f5⟩ := hf it (by simp)
    have ei : i = x.cps.size := Nat.le_antisymm hi hg
    subst ei
    exact wpAny_pyNext_enum_endD (strDraws (by simp [I.ok.hd hc]) it x t) he hit fun h2 eb => ⟨rfl, I.turned (t' := s.toks) (fun b o nb q => eb b o nb q) f0 f1 f3 f4 f5⟩
  self := fun A i s Q E st h => let ⟨⟨_, he⟩, _⟩ := st; wpAny_pyIter_enum he h
def iEnumT (ta : TA) : TI := fun σ H R => ta σ H fun vs H1 => ∃ z : Str, vs = [.str z] ∧ R (Ites z) H1
theorem pi_enumT {X : Cx} {e : Expr} {ta : TA} {p pos tpos : Pos} {elts : List Expr} {kk : Nat} (hg : Gl X "enumerate") (hm : X.mg "enumerate" = none) (ha : PA X [e] ta) (hs : starEach [e] X.env = [(false, eval e X.env)] := by rfl) :
    PI X (.Tuple elts kk tpos) (.Call (.Name "enumerate" p) [e] [] pos) (iEnumT ta) := by
  refine ⟨fun pins s σ H R I h => ?_⟩
  refine Call_ (ld_blt I hg hm boot_enumerate (callWith_type1 (thn (ha.run pos pins s σ H _ I h) fun us s1 ⟨vs, H1, I1, r1, z, ev, q⟩ => ?_) hs rfl))
  subst ev
  obtain ⟨u, rfl, r⟩ := vals1 r1
  obtain ⟨t, rfl⟩ := r
  refine call_enumerate_str fun h1 he hit hz kp => wpAny_pyIter_enum he ?_
  have I2 : Inv X pins σ H1 { s1 with heap := h1 } := I1.kept (t' := s1.toks) kp
  refine ⟨s1.heap.objs.size + 1, [s1.heap.objs.size + 1, s1.heap.objs.size], _, _, H1, rfl, I2, turn_enumT z t (s1.heap.objs.size + 1) s1.heap.objs.size (Nat.succ_ne_self _), ⟨⟨.none, he⟩, hit, Nat.zero_le _⟩, fun b hb => ?_, q⟩
  have le : s1.heap.objs.size ≤ b := by
    rcases (show b = s1.heap.objs.size + 1 ∨ b = s1.heap.objs.size by simpa using hb) with y | y <;> rw [y]
    · exact Nat.le_succ _
    · exact Nat.le_refl _
  exact I1.fpOk le (I1.hok.fresh le)
theorem walk_enumT {z : Str} : Walk (Ites z) z.cps.size (fun _ => True) (fun i H v H' => ∃ T c, v = .ref T ∧ H T = none ∧ H' = upd H T (.tup [.int (i : Nat), .str ⟨#[c]⟩]) ∧ z.cps[i]? = some c) :=
  ⟨fun _ _ hi _ => hi, fun _ _ => Nat.le_refl _, fun _ _ _ _ _ _ y => y⟩
end LS

/-! Line strikes, layer B: readings one step at a time. -/
namespace LS
open PySem PySem.Spec PyProof.Rows L2

/-! ### the abstract heap grows -/
def Ex (H H' : Hp) : Prop := ∀ a o, H a = some o → H' a = some o
theorem Ex.rfl' {H : Hp} : Ex H H := fun _ _ z => z
theorem Ex.tr {H H1 H2 : Hp} (x : Ex H H1) (y : Ex H1 H2) : Ex H H2 := fun a o z => y a o (x a o z)
theorem Ex.nw {H : Hp} {p : Addr} {o : HO} (z : H p = none) : Ex H (upd H p o) := fun a u e => (upd_ne (ne_of_none e z)).trans e
theorem Ex.at {H H' : Hp} {a : Addr} {o : HO} (x : Ex H H') (z : H a = some o) : H' a = some o := x a o z
theorem Ex.none {H H' : Hp} {a : Addr} (x : Ex H H') (z : H' a = Option.none) : H a = Option.none := by
  cases e : H a with
  | none => rfl
  | some o => rw [x a o e] at z; cases z
/-- all but the pen -/
def Ep (pn : Addr) (H H' : Hp) : Prop := ∀ a o, a ≠ pn → H a = some o → H' a = some o
theorem Ep.rfl' {pn : Addr} {H : Hp} : Ep pn H H := fun _ _ _ z => z
theorem Ep.tr {pn : Addr} {H H1 H2 : Hp} (x : Ep pn H H1) (y : Ep pn H1 H2) : Ep pn H H2 := fun a o n z => y a o n (x a o n z)
theorem Ex.ep {pn : Addr} {H H' : Hp} (x : Ex H H') : Ep pn H H' := fun a o _ z => x a o z
/-- an object that is none of the pen's -/
def Has (pn : Addr) (H : Hp) (a : Addr) (o : HO) : Prop := a ≠ pn ∧ H a = some o
theorem Has.mono {pn : Addr} {H H' : Hp} {a : Addr} {o : HO} (x : Ep pn H H') (z : Has pn H a o) : Has pn H' a o := ⟨z.1, x a o z.1 z.2⟩
theorem Has.ex {pn : Addr} {H H' : Hp} {a : Addr} {o : HO} (x : Ex H H') (z : Has pn H a o) : Has pn H' a o := ⟨z.1, x a o z.2⟩

/-! ### statements -/
section
variable {σ : L2.St} {H : Hp} {nx bk ct : L2.St → Hp → Prop} {rt : VK} {t u : TS} {c : TT} {te ta tb : TE} {i : Nat} {v : V} {Q : VK}
theorem g_seq (q : t ⟨fun σ H => u ⟨nx, rt, bk, ct⟩ σ H, rt, bk, ct⟩ σ H) : tSeq t u ⟨nx, rt, bk, ct⟩ σ H := q
theorem g_cut (M : L2.St → Hp → Prop) (h1 : t ⟨M, rt, bk, ct⟩ σ H) (h2 : ∀ σ' H', M σ' H' → u ⟨nx, rt, bk, ct⟩ σ' H') : C8.tCut t u ⟨nx, rt, bk, ct⟩ σ H := ⟨M, h1, h2⟩
theorem g_next (q : nx σ H) : tNext ⟨nx, rt, bk, ct⟩ σ H := q
theorem g_asg {g : TG} (q : te σ H fun x H1 => g x σ H1 nx) : tAsg te g ⟨nx, rt, bk, ct⟩ σ H := q
theorem g_name {N : L2.St → Hp → Prop} (q : N (σ.set i (some v)) H) : gName i v σ H N := q
theorem g_ifS (q : c σ H fun b H1 => if b = true then t ⟨nx, rt, bk, ct⟩ σ H1 else u ⟨nx, rt, bk, ct⟩ σ H1) : tIfS c t u ⟨nx, rt, bk, ct⟩ σ H := q
theorem g_ret (q : te σ H rt) : tRet te ⟨nx, rt, bk, ct⟩ σ H := q
theorem g_drop (q : te σ H fun _ H1 => nx σ H1) : tDrop te ⟨nx, rt, bk, ct⟩ σ H := q
theorem g_par {j : Nat} {tx : TA} (q : tx σ H fun vs H1 => ∃ v w, vs = [v, w] ∧ nx ((σ.set i (some v)).set j (some w)) H1) : tPar i j tx ⟨nx, rt, bk, ct⟩ σ H := q
theorem g_two {v w : V} {P : V → V → Prop} (q : P v w) : ∃ a b, [v, w] = [a, b] ∧ P a b := ⟨v, w, rfl, q⟩

/-! ### expressions -/
theorem g_var (e : σ[i]? = some (some v)) (q : Q v H) : tVar i σ H Q := ⟨v, e, q⟩
theorem g_c (q : Q v H) : tC v σ H Q := q
theorem g_op {r : R2} (q : ta σ H fun x H1 => tb σ H1 fun y H2 => r x y H2 Q) : tOp r ta tb σ H Q := q
theorem g_un {r : V → Hp → VK → Prop} (q : ta σ H fun x H1 => r x H1 Q) : tUn r ta σ H Q := q
theorem g_cons {tr : TA} {K : List V → Hp → Prop} (q : te σ H fun x H1 => tr σ H1 fun xs H2 => K (x :: xs) H2) : tCons te tr σ H K := q
theorem g_nil {K : List V → Hp → Prop} (q : K [] H) : tNil σ H K := q
theorem g_CB {r : List V → Hp → VK → Prop} {tx : TA} (q : tx σ H fun vs H1 => r vs H1 Q) : tCB r tx σ H Q := q
theorem g_I0 {g : Int → Int → V} {a b : Int} (q : Q (g a b) H) : rI0 g (.int a) (.int b) H Q := ⟨a, b, rfl, rfl, q⟩
theorem g_I {C : Int → Int → Prop} {g : Int → Int → V} {a b : Int} (h : C a b) (q : Q (g a b) H) : rI C g (.int a) (.int b) H Q := ⟨a, b, rfl, rfl, h, q⟩
theorem g_U {g : Int → V} {a : Int} (q : Q (g a) H) : rU g (.int a) H Q := ⟨a, rfl, q⟩
theorem g_eq {x y : V} (h : scal x y = true) (q : Q (.bl (decide (x = y))) H) : rEq x y H Q := ⟨h, q⟩
theorem g_ne {x y : V} (h : scal x y = true) (q : Q (.bl (!decide (x = y))) H) : rNe x y H Q := ⟨h, q⟩
def kNew (o : HO) (n : Nat) (H : Hp) (Q : VK) : Prop := n ≤ sizeLine ∧ ∀ p, H p = none → Q (.ref p) (upd H p o)
theorem g_lst {tx : TA} (q : tx σ H fun xs H1 => kNew (.lst xs) xs.length H1 Q) : tLst tx σ H Q := q
theorem g_tup {tx : TA} (q : tx σ H fun xs H1 => kNew (.tup xs) xs.length H1 Q) : tTup tx σ H Q := q
theorem g_new {o : HO} {n : Nat} (h : n ≤ 1000) (q : ∀ p H', H p = none → Ex H H' → H' p = some o → H' = upd H p o → Q (.ref p) H') : kNew o n H Q :=
  ⟨Nat.le_of_lt (small1000 h), fun p z => q p _ z (Ex.nw z) upd_same rfl⟩
/-! ### tests -/
theorem g_test {K : Bool → Hp → Prop} (q : te σ H fun x H1 => ∃ k, x = .bl k ∧ K k H1) : tTest te σ H K := q
theorem g_B {K : Bool → Hp → Prop} (q : te σ H fun x H1 => ∃ k, x = .bl k ∧ K k H1) : tB te σ H K := q
theorem g_bl {b : Bool} {P : Bool → Prop} (q : P b) : ∃ k, V.bl b = V.bl k ∧ P k := ⟨b, rfl, q⟩
theorem g_and {u : TT} {K : Bool → Hp → Prop} (q : c σ H fun b H1 => if b = true then u σ H1 K else K false H1) : tAnd c u σ H K := q
theorem g_orT {u : TT} {K : Bool → Hp → Prop} (q : c σ H fun b H1 => if b = true then K true H1 else u σ H1 K) : tOr c u σ H K := q
theorem g_not {K : Bool → Hp → Prop} (q : c σ H fun b H1 => K (!b) H1) : tNot c σ H K := q
theorem g_if (q : c σ H fun b H1 => if b = true then ta σ H1 Q else tb σ H1 Q) : tIf c ta tb σ H Q := q
theorem g_andV (q : ta σ H fun x H1 => ∃ k, x = .bl k ∧ if k = true then tb σ H1 Q else Q (.bl false) H1) : tAndV ta tb σ H Q := q
theorem g_orV (q : ta σ H fun x H1 => ∃ k, x = .bl k ∧ if k = true then Q (.bl true) H1 else tb σ H1 Q) : tOrV ta tb σ H Q := q
theorem g_notV (q : ta σ H fun x H1 => ∃ k, x = .bl k ∧ Q (.bl (!k)) H1) : tNotV ta σ H Q := q
theorem g_nt {A B : Prop} (q : B) : if (!true) = true then A else B := iteF q
theorem g_nf {A B : Prop} (q : A) : if (!false) = true then A else B := iteT q
theorem promise_len {vs : List V} {n : Nat} {P : Prop} (h : vs.length = n ∧ P) : vs.length = n := h.1
theorem if_dec {p A B : Prop} [Decidable p] (h : p) (q : A) : if decide p = true then A else B := by rw [decide_eq_true h]; exact iteT q
theorem if_nodec {p A B : Prop} [Decidable p] (h : ¬ p) (q : B) : if decide p = true then A else B := by rw [decide_eq_false h]; exact iteF q
theorem if_split {p A B : Prop} [Decidable p] (h1 : p → A) (h2 : ¬ p → B) : if decide p = true then A else B := by
  by_cases h : p
  · exact if_dec h (h1 h)
  · exact if_nodec h (h2 h)
theorem ifn_split {p A B : Prop} [Decidable p] (h1 : ¬ p → A) (h2 : p → B) : if (!decide p) = true then A else B := by
  by_cases h : p
  · rw [decide_eq_true h]; exact iteF (h2 h)
  · rw [decide_eq_false h]; exact iteT (h1 h)
theorem if_b {b : Bool} {A B : Prop} (h1 : b = true → A) (h2 : b = false → B) : if b = true then A else B := by
  cases b with
  | true => exact iteT (h1 rfl)
  | false => exact iteF (h2 rfl)
/-! ### built-ins -/
def rInt1 : List V → Hp → VK → Prop := fun xs H Q => (∃ i, xs = [.int i] ∧ Q (.int i) H) ∨ ∃ k, xs = [.bl k] ∧ Q (.int (if k then 1 else 0)) H
theorem call_intG {X : Cx} : CallR X (.type "int") rInt1 := call_int1
theorem g_int1 {a : Int} (q : Q (.int a) H) : rInt1 [V.int a] H Q := .inl ⟨a, rfl, q⟩
theorem g_intb {b : Bool} (q : Q (.int (if b then 1 else 0)) H) : rInt1 [V.bl b] H Q := .inr ⟨b, rfl, q⟩
def rAbs : List V → Hp → VK → Prop := fun xs H Q => ∃ i, xs = [.int i] ∧ Q (.int (if i < 0 then -i else i)) H
theorem call_absG {X : Cx} : CallR X (.builtin "abs") rAbs := call_abs
theorem g_abs {a : Int} (q : Q (.int (if a < 0 then -a else a)) H) : rAbs [V.int a] H Q := ⟨a, rfl, q⟩
def rLenT : List V → Hp → VK → Prop := fun xs H Q => ∃ x, xs = [.str x] ∧ x.length ≤ sizeLine ∧ Q (.int x.length) H
theorem call_lenT {X : Cx} : CallR X (.builtin "len") rLenT := call_len_str
theorem g_lenT {z : Str} (h : z.length ≤ 100000) (q : Q (.int z.length) H) : rLenT [V.str z] H Q := ⟨z, rfl, Nat.le_trans h (by decide), q⟩
variable {K : PySem.W.Frag}
theorem g_ixL {p : Addr} {xs : List V} {k : Int} (h : SqL K H p xs) (e : atI xs k = some v) (q : Q v H) : rIxL K (.ref p) (.int k) H Q := ⟨p, xs, k, v, rfl, rfl, h, e, q⟩
def rLenS (K : PySem.W.Frag) : List V → Hp → VK → Prop := fun xs H Q => ∃ p ys, xs = [.ref p] ∧ (SqL K H p ys ∨ SqT K H p ys) ∧ Q (.int ys.length) H
theorem call_lenG {X : Cx} : CallR X (.builtin "len") (rLenS X.K) := call_len_seq
theorem g_len {p : Addr} {xs : List V} (h : SqL K H p xs) (q : Q (.int xs.length) H) : rLenS K [V.ref p] H Q := ⟨p, xs, rfl, .inl h, q⟩
theorem g_lenU {p : Addr} {xs : List V} (h : SqT K H p xs) (q : Q (.int xs.length) H) : rLenS K [V.ref p] H Q := ⟨p, xs, rfl, .inr h, q⟩
theorem mix_side {x i k1 k2 k3 : Int} (h0 : 0 ≤ x) (h1 : x < 4294967296) (h2 : 0 ≤ i) (h3 : i ≤ 1000000) (a1 : 0 ≤ k1 ∧ k1 ≤ 1000) (a2 : 0 ≤ k2 ∧ k2 ≤ 100000) (a3 : 0 ≤ k3 ∧ k3 ≤ 100000) : CPow (x * (2 * i + k1) + k2 * i * i + k3) 3 := by
  have e1 : 0 ≤ x * (2 * i + k1) := Int.mul_nonneg h0 (by omega)
  have e2 : x * (2 * i + k1) ≤ 4294967296 * 2001000 := Int.mul_le_mul (by omega) (by omega) (by omega) (by omega)
  have e3 : 0 ≤ k2 * i * i := Int.mul_nonneg (Int.mul_nonneg a2.1 h2) h2
  have e4 : k2 * i ≤ 100000 * 1000000 := Int.mul_le_mul a2.2 h3 h2 (by omega)
  have e5 : k2 * i * i ≤ 100000 * 1000000 * 1000000 := Int.mul_le_mul e4 h3 h2 (by omega)
  refine ⟨by omega, by omega, ?_⟩
  omega
theorem sq_l {p : Addr} {xs : List V} (h : H p = some (.lst xs)) : SqL K H p xs := .inl (.inl h)
theorem sq_t {p : Addr} {xs : List V} (h : H p = some (.tup xs)) : SqT K H p xs := .inl (.inl h)
theorem g_sub {to ti : TE} {r : TSet} {N : L2.St → Hp → Prop} (q : to σ H fun o H1 => ti σ H1 fun k H2 => r o k v H2 fun H3 => N σ H3) : gSub to ti r v σ H N := q
theorem g_setL {p : Addr} {xs : List V} {k : Int} {j : Nat} {N : Hp → Prop} (h : H p = some (.lst xs)) (e : ixN xs.length k = some j) (q : N (upd H p (.lst (xs.set j v)))) : rSetL (.ref p) (.int k) v H N := ⟨p, xs, k, j, rfl, rfl, h, e, q⟩
theorem dp_ints {cs : List Int} : DpAll K H (cs.map V.int) (cs.map PyData.int) := by
  induction cs with
  | nil => exact .nil
  | cons x r ih => exact .cons (.int x) ih
theorem g_neN {p q : Addr} {cs : List Int} (h : H p = some (.lst (cs.map V.int))) (h2 : H q = some (.lst [])) (k : Q (.bl (!decide (cs = []))) H) : rNeD K (.ref p) (.ref q) H Q := by
  refine ⟨.list (cs.map PyData.int), .list [], .lst (sq_l h) dp_ints, .lst (sq_l h2) .nil, PySem.W.ke_shaped_ints cs, rfl, ?_⟩
  have e : PyData.eqv (.list (cs.map PyData.int)) (.list []) = decide (cs = []) := by
    cases cs <;> rfl
  rw [e]
  exact k
end
end LS

/-! Line strikes, layer C: defs, methods, makers as bundles; operators of own classes. -/
namespace LS
open PySem PySem.Spec PyProof.Rows L2

/-- a global def keeps a promise -/
structure Gbl (P : Program) (w : World) (K : PySem.W.Frag) (mg : Str → Option Value) (base : Heap) (x : Str) (k : Nat) (sp : Sp) : Prop where
  ex : ∃ (f : Addr) (fd : FuncData) (ps : List Str), FnOk P w K mg base (L2.CX P w) k f fd ps sp ∧ mg x = some (.ref f) ∧ PySem.W.keepIn K (.ref f) = true ∧ Binds K fd ps []
/-- a method of the class at C -/
structure Mth (P : Program) (w : World) (K : PySem.W.Frag) (mg : Str → Option Value) (base : Heap) (C : Addr) (m : Str) (k : Nat) (sp : Sp) : Prop where
  ex : ∃ (f : Addr) (fd : FuncData) (ps : List Str), Cls K C ∧ Meth K C m f ∧ FnOk P w K mg base (L2.CX P w) k f fd ps sp ∧ Binds K fd ps [] ∧ PySem.W.fnIn K f = true
/-- the class at C, called -/
structure Mkr (P : Program) (w : World) (K : PySem.W.Frag) (mg : Str → Option Value) (base : Heap) (x : Str) (C : Addr) (k : Nat) (sp : Sp) : Prop where
  ex : ∃ (f : Addr) (fd : FuncData) (ps : List Str), Mk K C f ∧ FnOk P w K mg base (L2.CX P w) k f fd ps sp ∧ mg x = some (.ref C) ∧ Binds K fd ps []
/-- a property of the class at C -/
structure Prp (P : Program) (w : World) (K : PySem.W.Frag) (mg : Str → Option Value) (base : Heap) (C : Addr) (x : Str) (k : Nat) (sp : Sp) : Prop where
  ex : ∃ (p g : Addr) (fd : FuncData) (ps : List Str), Cls K C ∧ PropOf K C x p g ∧ FnOk P w K mg base (L2.CX P w) k g fd ps sp ∧ Binds K fd ps []
theorem passN {X : Cx} : Passes (L2.CX X.prog X.w) X.nox E0 := fun _ _ _ _ _ _ _ h => by
  obtain ⟨_, _, _, _, _, _, _, _, _, _, _, _, z⟩ := h
  exact z.elim

section
variable {X : Cx} {x m : Str} {k j : Nat} {sp : Sp} {e o : Expr} {es : List Expr} {t : TA} {ta tb : TE} {p pos apos : Pos} {C : Addr}
theorem pe_g (c : Gbl X.prog X.w X.K X.mg X.base x k sp) (hr : Room j X.A) (hk : k ≤ j) (hg : Gl X x) (ha : PA X (e :: es) t) (hdb : (x == ("__debug__" : Str)) = false := by decide)
    (he : starEach (e :: es) X.env = (false, eval e X.env) :: starEach es X.env := by rfl) (hpl : (backTo pos (starEach es X.env)).any (·.1) = false := by rfl) : PE X (.Call (.Name x p) (e :: es) [] pos) (tCall sp [] E0 t) := by
  obtain ⟨f, fd, ps, F, hm, kp, b⟩ := c.ex
  exact pe_call F (hr.mono hk) hg hm kp b .nil passL ha hdb he hpl
theorem pe_n (c : Mkr X.prog X.w X.K X.mg X.base x C k sp) (hr : Room j X.A) (hk : k + 1 ≤ j) (hg : Gl X x) (ha : PA X (e :: es) t) (hdb : (x == ("__debug__" : Str)) = false := by decide)
    (he : starEach (e :: es) X.env = (false, eval e X.env) :: starEach es X.env := by rfl) (hpl : (backTo pos (starEach es X.env)).any (·.1) = false := by rfl) : PE X (.Call (.Name x p) (e :: es) [] pos) (tMake C sp [] E0 t) := by
  obtain ⟨f, fd, ps, M, F, hm, b⟩ := c.ex
  exact pe_make M F (hr.mono hk) hg hm b .nil passL ha hdb he hpl
theorem pe_m {pl : Sem Bool} (c : Mth X.prog X.w X.K X.mg X.base C m k sp) (hr : Room j X.A) (hk : k ≤ j) (ho : PE X o ta) (ha : PA X (e :: es) t)
    (hst : starEach (e :: es) X.env = (false, eval e X.env) :: starEach es X.env := by rfl) (hpl : (backTo pos (starEach es X.env)).any (·.1) = false := by rfl)
    (ht : eval (.Call (.Attribute o m apos) (e :: es) [] pos) X.env = (do
      let ov ← eval o X.env
      standAt apos.atName
      let (f, first) ← holding [ov] (getMethod ov m pl)
      callWith pos f first (backTo pos (starEach (e :: es) X.env)) (backToKw pos (keywordEach [] X.env))) := by rfl) : PE X (.Call (.Attribute o m apos) (e :: es) [] pos) (tMeth C m sp [] E0 ta t) := by
  obtain ⟨f, fd, ps, c1, M, F, b, _⟩ := c.ex
  exact pe_meth (ht := ht) (hst := hst) (hpl := hpl) ho c1 M F (hr.mono hk) b .nil passL ha
theorem pe_m0 {pl : Sem Bool} (c : Mth X.prog X.w X.K X.mg X.base C m k sp) (hr : Room j X.A) (hk : k ≤ j) (ho : PE X o ta)
    (ht : eval (.Call (.Attribute o m apos) [] [] pos) X.env = (do
      let ov ← eval o X.env
      standAt apos.atName
      let (f, first) ← holding [ov] (getMethod ov m pl)
      callWith pos f first (backTo pos (starEach [] X.env)) (backToKw pos (keywordEach [] X.env))) := by rfl) : PE X (.Call (.Attribute o m apos) [] [] pos) (tMeth C m sp [] E0 ta tNil) := by
  obtain ⟨f, fd, ps, c1, M, F, b, _⟩ := c.ex
  exact pe_meth0 (ht := ht) ho c1 M F (hr.mono hk) b .nil passL
theorem pe_p (c : Prp X.prog X.w X.K X.mg X.base C x k sp) (hr : Room j X.A) (hk : k + 1 ≤ j) (ho : PE X o ta) (hab : attributeBase o x X.env (eval o X.env) = eval o X.env := by rfl) :
    PE X (.Attribute o x pos) (tProp C sp [] E0 ta) := by
  obtain ⟨q, g, fd, ps, c1, M, F, b⟩ := c.ex
  exact pe_prop ho c1 M F (hr.mono hk) b .nil passN hab
end

section
variable {X : Cx} {C g : Addr} {m : Str} {k : Nat} {sp : Sp} {fd : FuncData} {ps : List Str} {pins : List (Addr × Obj)} {σ : L2.St} {H : Hp} {s : Shared} {Q : VK} {us : List Value} {vs : List V} {A : Around}
/-- the method's call, from where a dispatch stands -/
theorem call_mth (F : FnOk X.prog X.w X.K X.mg X.base (L2.CX X.prog X.w) k g fd ps sp) (hr : Room k A) (e0 : Env0 X.prog X.w X.K X.mg X.base A X.stack s H) (hb : Binds X.K fd ps []) (I : Inv X pins σ H s) (r : Vals vs us) (h : sp vs H Q E0) :
    wpAny (model X.prog X.w) A (call (.ref g) us) (EP X pins σ Q) X.xe s := by
  have hl : us.length = ps.length := by
    rw [← r.length]
    exact F.len _ _ _ _ h
  have hbb := hb s us I.kIn (by simpa using hl)
  rw [List.append_nil] at hbb
  refine wpAny_call (codeAny_mono (F.run A X.stack s H ⟨us, []⟩ us vs Q E0 hr e0 hbb r h) fun q s2 hq => ?_)
  cases q with
  | error e => exact passL pins σ H s e s2 I hq
  | ok fl =>
    cases fl with
    | ret u => exact I.after hq
    | next => exact hq.elim
    | brk => exact hq.elim
    | cont => exact hq.elim
theorem at_ins {dx a : Addr} {fs : List (Str × V)} (I : Inv X pins σ H s) (h : H a = some (.ins C dx fs)) : ∃ od, PySem.W.InstAt s.heap a (PySem.W.instObj C dx) C (some od) := by
  obtain ⟨mA, J, _⟩ := ins_get I.hok h
  obtain ⟨od, J2, _⟩ := J.look
  exact ⟨od, J2⟩
/-- a op b by a's own def; b of the same class -/
def rBin (C : Addr) (sp : Sp) : R2 := fun x y H Q => ∃ a dx fs b dy gs, x = .ref a ∧ y = .ref b ∧ H a = some (.ins C dx fs) ∧ H b = some (.ins C dy gs) ∧ sp [.ref a, .ref b] H Q E0
theorem op_own {op : Operator} {j : Nat} (c : Mth X.prog X.w X.K X.mg X.base C (PySem.dunder op.info.2) k sp) (hf : PySem.W.selfFirst X.K C = true) (hr : Room j X.A) (hk : k ≤ j) : OpR X (binaryOp op) (rBin C sp) := by
  intro pins s σ H x y v u Q I rx ry h
  obtain ⟨a, dx, fs, b, dy, gs, rfl, rfl, ha, hb, q⟩ := h
  cases rx
  cases ry
  obtain ⟨f, fd, ps, c1, M, F, bd, hfn⟩ := c.ex
  obtain ⟨od, J⟩ := at_ins I ha
  obtain ⟨od2, J2⟩ := at_ins I hb
  obtain ⟨mm, hF⟩ := I.fr
  refine PySem.W.binop_K hF I.ok.mod.kin J J2.type hf M.at_ M.fn ?_
  refine wpAny_mono (call_mth (vs := [.ref a, .ref b]) F (hr.mono hk) I.env0 bd I (.cons rfl (.cons rfl .nil)) q) (fun w s2 z => ?_) fun _ _ e => e
  obtain ⟨v, H2, I2, rv, qv⟩ := z
  exact SlX.cmpback rv ⟨v, H2, I2, rv, qv⟩
/-- a == b by a's own def; b an instance of an own class that is not below a's -/
def rEqO (K : PySem.W.Frag) (C : Addr) (sp : Sp) : R2 := fun x y H Q => ∃ a dx fs b D dy gs, x = .ref a ∧ y = .ref b ∧ H a = some (.ins C dx fs) ∧ H b = some (.ins D dy gs) ∧ PySem.W.notFirst K C (.ref D) = true ∧ sp [.ref a, .ref b] H Q E0
theorem op_eqO {j : Nat} (c : Mth X.prog X.w X.K X.mg X.base C "__eq__" k sp) (hr : Room j X.A) (hk : k ≤ j) : OpR X (compareOp .Eq) (rEqO X.K C sp) := by
  intro pins s σ H x y v u Q I rx ry h
  obtain ⟨a, dx, fs, b, D, dy, gs, rfl, rfl, ha, hb, hn, q⟩ := h
  cases rx
  cases ry
  obtain ⟨f, fd, ps, c1, M, F, bd, hfn⟩ := c.ex
  obtain ⟨od, J⟩ := at_ins I ha
  obtain ⟨od2, J2⟩ := at_ins I hb
  obtain ⟨mm, hF⟩ := I.fr
  show wpAny (model X.prog X.w) X.A (richCompare .Eq (.ref a) (.ref b)) _ _ s
  refine PySem.W.cmp_K (op := .Eq) hr.units0 hF I.ok.mod.kin J J2.type hn M.at_ M.fn ?_
  refine wpAny_mono (call_mth (vs := [.ref a, .ref b]) F (hr.mono hk) I.env0 bd I (.cons rfl (.cons rfl .nil)) q) (fun w s2 z => ?_) fun _ _ e => e
  obtain ⟨v, H2, I2, rv, qv⟩ := z
  exact SlX.cmpback rv ⟨v, H2, I2, rv, qv⟩
/-- x in a, by a's own def, which answers True or False -/
def rInO (C : Addr) (sp : Sp) (neg : Bool) : R2 := fun x y H Q => ∃ a dx fs, y = .ref a ∧ H a = some (.ins C dx fs) ∧ sp [.ref a, x] H (fun v H' => ∃ b, v = .bl b ∧ Q (.bl (b != neg)) H') E0
theorem op_inO {j : Nat} (c : Mth X.prog X.w X.K X.mg X.base C "__contains__" k sp) (hr : Room j X.A) (hk : k ≤ j) : OpR X (compareOp .In) (rInO C sp false) := by
  intro pins s σ H x y v u Q I rx ry h
  obtain ⟨a, dx, fs, rfl, ha, q⟩ := h
  cases ry
  obtain ⟨f, fd, ps, c1, M, F, bd, hfn⟩ := c.ex
  obtain ⟨od, J⟩ := at_ins I ha
  obtain ⟨mm, hF⟩ := I.fr
  refine PySem.W.in_K hF I.ok.mod.kin J M.at_ M.fn ?_
  refine wpAny_mono (call_mth (vs := [.ref a, x]) F (hr.mono hk) I.env0 bd I (.cons rfl (.cons rx .nil)) q) (fun w s2 z => ?_) fun _ _ e => e
  obtain ⟨v2, H2, I2, rv, b, rfl, qv⟩ := z
  cases rv
  exact wpAny_truthy_bool ⟨.bl b, H2, I2, rfl, by simpa using qv⟩
theorem op_ninO {j : Nat} (c : Mth X.prog X.w X.K X.mg X.base C "__contains__" k sp) (hr : Room j X.A) (hk : k ≤ j) : OpR X (compareOp .NotIn) (rInO C sp true) := by
  intro pins s σ H x y v u Q I rx ry h
  obtain ⟨a, dx, fs, rfl, ha, q⟩ := h
  cases ry
  obtain ⟨f, fd, ps, c1, M, F, bd, hfn⟩ := c.ex
  obtain ⟨od, J⟩ := at_ins I ha
  obtain ⟨mm, hF⟩ := I.fr
  refine PySem.W.notIn_K hF I.ok.mod.kin J M.at_ M.fn ?_
  refine wpAny_mono (call_mth (vs := [.ref a, x]) F (hr.mono hk) I.env0 bd I (.cons rfl (.cons rx .nil)) q) (fun w s2 z => ?_) fun _ _ e => e
  obtain ⟨v2, H2, I2, rv, b, rfl, qv⟩ := z
  cases rv
  exact wpAny_truthy_bool ⟨.bl (!b), H2, I2, rfl, by simpa using qv⟩
/-- ~a, -a -/
def rUnO (C : Addr) (sp : Sp) : V → Hp → VK → Prop := fun x H Q => ∃ a dx fs, x = .ref a ∧ H a = some (.ins C dx fs) ∧ sp [.ref a] H Q E0
theorem un_invO {j : Nat} (c : Mth X.prog X.w X.K X.mg X.base C "__invert__" k sp) (hr : Room j X.A) (hk : k ≤ j) : UnR X (unaryOp .Invert) (rUnO C sp) := by
  intro pins s σ H x v Q I rx h
  obtain ⟨a, dx, fs, rfl, ha, q⟩ := h
  cases rx
  obtain ⟨f, fd, ps, c1, M, F, bd, hfn⟩ := c.ex
  obtain ⟨od, J⟩ := at_ins I ha
  obtain ⟨mm, hF⟩ := I.fr
  exact PySem.W.ksp_inv hF I.ok.mod.kin J M.at_ M.fn (call_mth (vs := [.ref a]) F (hr.mono hk) I.env0 bd I (.cons rfl .nil) q)
theorem un_negO {j : Nat} (c : Mth X.prog X.w X.K X.mg X.base C "__neg__" k sp) (hr : Room j X.A) (hk : k ≤ j) : UnR X (unaryOp .USub) (rUnO C sp) := by
  intro pins s σ H x v Q I rx h
  obtain ⟨a, dx, fs, rfl, ha, q⟩ := h
  cases rx
  obtain ⟨f, fd, ps, c1, M, F, bd, hfn⟩ := c.ex
  obtain ⟨od, J⟩ := at_ins I ha
  obtain ⟨mm, hF⟩ := I.fr
  exact PySem.W.ksp_neg hF I.ok.mod.kin J M.at_ M.fn (call_mth (vs := [.ref a]) F (hr.mono hk) I.env0 bd I (.cons rfl .nil) q)
/-- len(a) -/
def rLenO (C : Addr) (sp : Sp) : List V → Hp → VK → Prop := fun xs H Q => ∃ a dx fs, xs = [.ref a] ∧ H a = some (.ins C dx fs) ∧ sp [.ref a] H (fun v H' => ∃ i : Int, v = .int i ∧ 0 ≤ i ∧ i < 1000000 ∧ Q (.int i) H') E0
theorem call_lenO {j : Nat} (c : Mth X.prog X.w X.K X.mg X.base C "__len__" k sp) (hr : Room j X.A) (hk : k + 1 ≤ j) : CallR X (.builtin "len") (rLenO C sp) := by
  intro pins s σ H xs us Q I r h
  obtain ⟨a, dx, fs, rfl, ha, q⟩ := h
  obtain ⟨u, rfl, ru⟩ := vals1 r
  cases ru
  obtain ⟨f, fd, ps, c1, M, F, bd, hfn⟩ := c.ex
  obtain ⟨od, J⟩ := at_ins I ha
  obtain ⟨mm, hF⟩ := I.fr
  refine PySem.W.len_K hF I.ok.mod.kin J M.at_ M.fn ?_
  refine wpAny_mono (call_mth (vs := [.ref a]) F (hr.mono hk).in1 I.env0.in1 bd I (.cons rfl .nil) q) (fun w s2 z => ?_) fun _ _ e => e
  obtain ⟨v2, H2, I2, rv, i, rfl, h0, h1, qv⟩ := z
  obtain ⟨tk, rfl⟩ := rv
  exact ⟨⟨h0, by omega⟩, .int i, H2, I2.tok _, ⟨_, rfl⟩, qv⟩
/-- a's truth by its own def -/
def rTruO (C : Addr) (sp : Sp) : V → Hp → (Bool → Hp → Prop) → Prop := fun x H Q => ∃ a dx fs, x = .ref a ∧ H a = some (.ins C dx fs) ∧ sp [.ref a] H (fun v H' => ∃ b, v = .bl b ∧ Q b H') E0
theorem tru_O {j : Nat} (c : Mth X.prog X.w X.K X.mg X.base C "__bool__" k sp) (hr : Room j X.A) (hk : k ≤ j) : TruR X (rTruO C sp) := by
  intro pins s σ H x v Q I rx h
  obtain ⟨a, dx, fs, rfl, ha, q⟩ := h
  cases rx
  obtain ⟨f, fd, ps, c1, M, F, bd, hfn⟩ := c.ex
  obtain ⟨od, J⟩ := at_ins I ha
  obtain ⟨mm, hF⟩ := I.fr
  refine PySem.W.truthy_K hF I.ok.mod.kin J M.at_ M.fn ?_
  refine wpAny_mono (call_mth (vs := [.ref a]) F (hr.mono hk) I.env0 bd I (.cons rfl .nil) q) (fun w s2 z => ?_) fun _ _ e => e
  obtain ⟨v2, H2, I2, rv, b, rfl, qv⟩ := z
  cases rv
  exact ⟨H2, I2, qv⟩
/-- a[i] -/
def rIxO (C : Addr) (sp : Sp) : R2 := fun x y H Q => ∃ a dx fs, x = .ref a ∧ H a = some (.ins C dx fs) ∧ sp [.ref a, y] H Q E0
def tIxO (C : Addr) (sp : Sp) (ta tb : TE) : TE := tOp (rIxO C sp) ta tb
theorem pe_ixO {j : Nat} {a b : Expr} {ta tb : TE} {pos : Pos} (c : Mth X.prog X.w X.K X.mg X.base C "__getitem__" k sp) (hr : Room j X.A) (hk : k + 1 ≤ j) (ha : PE X a ta) (hb : PE X b tb)
    (hs : ∀ o i, subscripted b true o i = runValue (.builtin "lifetime.subscript" ⟨[o, i], []⟩)) : PE X (.Subscript a b pos) (tIxO C sp ta tb) := by
  refine ⟨fun pins s σ H Q I h => ?_⟩
  refine Subscript_ (binT ha hb I h fun v u s2 x y H2 I2 rx ry q => ?_)
  obtain ⟨p, dx, fs, rfl, hp, q⟩ := q
  cases rx
  obtain ⟨f, fd, ps, c1, M, F, bd, hfn⟩ := c.ex
  obtain ⟨od, J⟩ := at_ins I2 hp
  obtain ⟨mm, hF⟩ := I2.fr
  exact PySem.W.sub_K hF I2.ok.mod.kin J M.at_ hfn M.fn (call_mth (vs := [.ref p, y]) F (hr.mono hk).in1 I2.env0.in1 bd I2 (.cons rfl (.cons ry .nil)) q) (hs _ _)
end
end LS

/-! Line strikes, layer D: more readings one step at a time: isinstance, chains, comprehensions, fields, calls. -/
namespace LS
open PySem PySem.Spec PyProof.Rows L2
section
variable {K : PySem.W.Frag} {σ : L2.St} {H : Hp} {nx bk ct : L2.St → Hp → Prop} {rt : VK} {t u : TS} {c : TT} {te ta tb tc : TE} {i : Nat} {v : V} {Q : VK}
/-! ### isinstance -/
theorem g_isi {x cv : V} {tv uv : Value} {b : Bool} (k : ClsV cv uv) (ty : TyX K H x tv) (e : PySem.W.kitOne K tv uv = some b) (q : Q (.bl b) H) : rIsi K [x, cv] H Q := ⟨x, cv, tv, uv, b, rfl, k, ty, e, q⟩
theorem g_isiT {x : V} {tp : Addr} {cs : List V} {tv : Value} {us : List Value} {b : Bool} (hT : H tp = some (.tup cs)) (k : Paired ClsV cs us) (ty : TyX K H x tv) (e : PySem.W.kitAny K tv us = some b) (q : Q (.bl b) H) : rIsiT K [x, .ref tp] H Q :=
  ⟨x, tp, cs, tv, us, b, rfl, hT, k, ty, e, q⟩
/-! ### chains -/
def rCh (r : R2) (y : V) (tc : TE) (σ : L2.St) (z : V) (H : Hp) (Q : VK) : Prop := ∃ k, z = .bl k ∧ (if k = true then tc σ H fun w H4 => r y w H4 Q else Q (.bl false) H)
theorem g_chain {r r' : R2} (q : ta σ H fun x H1 => tb σ H1 fun y H2 => r x y H2 fun z H3 => rCh r' y tc σ z H3 Q) : tChain r r' ta tb tc σ H Q := q
theorem g_ch {r : R2} {y : V} {b : Bool} (q : if b = true then tc σ H fun w H4 => r y w H4 Q else Q (.bl false) H) : rCh r y tc σ (.bl b) H Q := ⟨b, rfl, q⟩
/-! ### sets of signs -/
def rLS (x : V) (H : Hp) (Q : VK) : Prop := ∃ z : Str, x = .str z ∧ z.cps.size ≤ 4000 ∧ Q (.int (fresh z.cps.toList z.cps.size)) H
theorem g_lenset (q : ta σ H fun x H1 => rLS x H1 Q) : tLenSetT ta σ H Q := q
theorem g_ls {z : Str} (h : z.cps.size ≤ 4000) (q : Q (.int (fresh z.cps.toList z.cps.size)) H) : rLS (.str z) H Q := ⟨z, rfl, h, q⟩
theorem g_all {a : Addr} {bs : List Bool} (h : H a = some (.lst (bs.map V.bl))) (q : Q (.bl (bs.all id)) H) : rAll K [.ref a] H Q := ⟨a, bs, rfl, sq_l h, q⟩
theorem g_any {a : Addr} {bs : List Bool} (h : H a = some (.lst (bs.map V.bl))) (q : Q (.bl (bs.any id)) H) : rAny K [.ref a] H Q := ⟨a, bs, rfl, sq_l h, q⟩
theorem g_sum {a : Addr} {ns : List Int} (h : H a = some (.lst (ns.map V.int))) (q : Q (.int ns.sum) H) : rSum K [.ref a] H Q := ⟨a, ns, rfl, sq_l h, q⟩
/-- one sign in a text -/
theorem op_insG {X : Cx} : OpR X (compareOp .In) rInS := op_in_sign
theorem op_ninsG {X : Cx} : OpR X (compareOp .NotIn) rNotInS := op_notIn_sign
theorem g_ins {k : Nat} {z : Str} (q : Q (.bl (decide (k ∈ z.cps.toList))) H) : rInS (.str ⟨#[k]⟩) (.str z) H Q := ⟨k, z, rfl, rfl, q⟩
theorem g_nins {k : Nat} {z : Str} (q : Q (.bl (!decide (k ∈ z.cps.toList))) H) : rNotInS (.str ⟨#[k]⟩) (.str z) H Q := ⟨k, z, rfl, rfl, q⟩
/-! ### comprehensions -/
def kLc (J : It) (g : TG) (tt : TT) (te : TE) (vs : List Nat) (σ : L2.St) (H : Hp) (Q : VK) : Prop := ∀ D, H D = none → ∃ W : Nat → Nat → Hp → Prop, (∃ m, W 0 m (upd H D (.lst []))) ∧ ∀ i m H, W i m H →
  (J.stop i H ∧ Q (.ref D) H) ∨ (J.go i H ∧ ∃ Nx : Hp → Prop, (∀ H', Nx H' → ∃ m', m' < m ∧ W (i + 1) m' H') ∧ ∀ x H', J.yld i H x H' → g x (wipe σ vs) H' fun σ2 H2 => wipe σ2 vs = wipe σ vs ∧ tt σ2 H2 fun b H3 =>
    if b = true then te σ2 H3 fun y H4 => ∃ acc, H4 D = some (.lst acc) ∧ acc.length < sizeLine ∧ Nx (upd H4 D (.lst (acc ++ [y]))) else Nx H3)
theorem g_lc {wi : TI} {g : TG} {tt : TT} {vs : List Nat} (q : wi σ H fun J H1 => kLc J g tt te vs σ H1 Q) : tLc wi g tt te vs σ H Q := q
def kIt (J : It) (H : Hp) (R : It → Hp → Prop) : Prop := R J H
theorem g_iStr {R : It → Hp → Prop} (q : te σ H fun x H1 => ∃ z, x = .str z ∧ R (Its z) H1) : iStr te σ H R := q
theorem g_strz {z : Str} {P : Str → Prop} (q : P z) : ∃ y, V.str z = V.str y ∧ P y := ⟨z, rfl, q⟩
theorem g_iEnumT {tx : TA} {R : It → Hp → Prop} (q : tx σ H fun vs H1 => ∃ z : Str, vs = [.str z] ∧ R (Ites z) H1) : iEnumT tx σ H R := q
theorem g_str1 {z : Str} {P : Str → Prop} (q : P z) : ∃ y : Str, [V.str z] = [V.str y] ∧ P y := ⟨z, rfl, q⟩
theorem g_iList {R : It → Hp → Prop} (q : te σ H fun x H1 => ∃ a, x = .ref a ∧ (∃ xs, SqL K H1 a xs) ∧ R (Itl K a) H1) : iList K te σ H R := q
theorem g_iL {a : Addr} {xs : List V} {P : Addr → Prop} (h : SqL K H a xs) (q : P a) : ∃ b, V.ref a = V.ref b ∧ (∃ xs, SqL K H b xs) ∧ P b := ⟨a, rfl, ⟨xs, h⟩, q⟩
theorem g_iRng1 {tx : TA} {R : It → Hp → Prop} (q : tx σ H fun vs H1 => ∃ j : Int, vs = [.int j] ∧ -(2 ^ 62) ≤ j ∧ j < 2 ^ 62 ∧ R (Itr 0 j.toNat) H1) : iRng1 tx σ H R := q
theorem g_r1 {k : Int} {P : Int → Prop} (h0 : 0 ≤ k) (h1 : k ≤ 1000000) (q : P k) : ∃ j : Int, [V.int k] = [V.int j] ∧ -(2 ^ 62) ≤ j ∧ j < 2 ^ 62 ∧ P j := ⟨k, rfl, by omega, by omega, q⟩
/-- which of the first n, their values -/
def given (n : Nat) (f : Nat → Bool) (v : Nat → V) : List V := ((List.range n).filter f).map v
theorem given_yes {n : Nat} {f : Nat → Bool} {v : Nat → V} (h : f n = true) : given (n + 1) f v = given n f v ++ [v n] := by
  unfold given
  rw [List.range_succ, List.filter_append, List.map_append]
  congr 1
  rw [List.filter_cons, if_pos h]
  rfl
theorem given_no {n : Nat} {f : Nat → Bool} {v : Nat → V} (h : f n = false) : given (n + 1) f v = given n f v := by
  unfold given
  rw [List.range_succ, List.filter_append, List.filter_cons, if_neg (by rw [h]; decide)]
  simp
theorem given_len (n : Nat) (f : Nat → Bool) (v : Nat → V) : (given n f v).length ≤ n := by
  unfold given
  rw [List.length_map]
  have h := List.length_filter_le f (List.range n)
  rw [List.length_range] at h
  exact h
/-- a comprehension whose items are values that do not hang on the heap -/
theorem g_lcV {J : It} {n : Nat} {G : Hp → Prop} {Y : Nat → Hp → V → Hp → Prop} {g : TG} {tt : TT} {vs : List Nat} (w : Walk J n G Y) (f : Nat → Bool) (v : Nat → V) (hG : ∀ H', Ex H H' → G H') (hn : n ≤ 4000)
    (turn : ∀ i x H1 H2, i < n → Ex H H1 → Y i H1 x H2 → Ex H1 H2 ∧ ∀ (Yes : V → Hp → Prop) (No : Hp → Prop), (f i = true → ∀ H4, Ex H2 H4 → Yes (v i) H4) → (f i = false → ∀ H4, Ex H2 H4 → No H4) →
      g x (wipe σ vs) H2 fun σ2 H3 => wipe σ2 vs = wipe σ vs ∧ tt σ2 H3 fun b H4 => if b = true then te σ2 H4 fun y H5 => Yes y H5 else No H4)
    (q : ∀ D H', H D = none → Ex H H' → H' D = some (.lst (given n f v)) → Q (.ref D) H') : kLc J g tt te vs σ H Q := by
  intro D hD
  refine lc_it w (fun i H' => Ex H H' ∧ H' D = some (.lst (given i f v))) ⟨Ex.nw hD, upd_same⟩ (fun i H' _ p => hG H' p.1) (fun i x H1 H2 hi p y => ?_) fun H' p => q D H' hD p.1 p.2
  obtain ⟨ex, ed⟩ := p
  obtain ⟨e12, tn⟩ := turn i x H1 H2 hi ex y
  refine tn (fun z H4 => ∃ acc, H4 D = some (.lst acc) ∧ acc.length < sizeLine ∧ Ex H (upd H4 D (.lst (acc ++ [z]))) ∧ (upd H4 D (.lst (acc ++ [z]))) D = some (.lst (given (i + 1) f v))) (fun H4 => Ex H H4 ∧ H4 D = some (.lst (given (i + 1) f v)))
    (fun hf H4 e4 => ⟨given i f v, e4 _ _ (e12 _ _ ed), Nat.lt_of_le_of_lt (given_len i f v) (Nat.lt_of_lt_of_le (show i < 5000 by omega) (by decide)), fun a o z => ?_, ?_⟩) (fun hf H4 e4 => ⟨(ex.tr e12).tr e4, ?_⟩)
  · rw [upd_ne (ne_of_none z hD)]
    exact e4 _ _ (e12 _ _ (ex _ _ z))
  · rw [upd_same, given_yes hf]
  · rw [given_no hf]
    exact e4 _ _ (e12 _ _ ed)
/-- the end of a turn -/
theorem g_turn {vs : List Nat} {σ2 : L2.St} {P : Prop} (e : wipe σ2 vs = wipe σ vs) (q : P) : wipe σ2 vs = wipe σ vs ∧ P := ⟨e, q⟩
theorem g_yes {N : Bool → Hp → Prop} (q : N true H) : tYes σ H N := q
theorem g_gtup {T : Addr} {xs : List V} {n : Nat} {tg : TGs} {N : L2.St → Hp → Prop} (h : SqT K H T xs) (hl : xs.length = n) (q : tg xs σ H N) : gTup K n tg (.ref T) σ H N := ⟨T, xs, rfl, h, hl, q⟩
theorem g_gcons {x : V} {r : List V} {g : TG} {tg : TGs} {N : L2.St → Hp → Prop} (q : g x σ H fun σ1 H1 => tg r σ1 H1 N) : gCons g tg (x :: r) σ H N := ⟨x, r, rfl, q⟩
theorem g_gnil {N : L2.St → Hp → Prop} (q : N σ H) : gNil [] σ H N := ⟨rfl, q⟩
/-! ### texts joined -/
def rJoin (K : PySem.W.Frag) : V → List V → Hp → VK → Prop := fun x xs H Q => ∃ a p, ∃ ys : List Str, x = .str a ∧ xs = [.ref p] ∧ (SqL K H p (ys.map V.str) ∨ SqT K H p (ys.map V.str)) ∧ (ys.map (·.length)).sum + ys.length * a.length ≤ 16777216 ∧ Q (.str (Txt.join a ys)) H
def tJoin (K : PySem.W.Frag) (to te : TE) : TE := tM1 (rJoin K) to te
theorem pe_joinG {X : Cx} {o e : Expr} {to te : TE} {apos pos : Pos} (ho : PE X o to) (he : PE X e te) (hs : starEach [e] X.env = [(false, eval e X.env)] := by rfl) (hbase : attributeBase o "join" X.env (eval o X.env) = eval o X.env := by rfl) (hline : (apos.endLine == pos.line) = true := by rfl) :
    PE X (.Call (.Attribute o "join" apos) [e] [] pos) (tJoin X.K to te) := pe_join ho he hs hbase hline
theorem g_join {to : TE} (q : to σ H fun x H1 => (∃ a, x = .str a) ∧ te σ H1 fun y H2 => rJoin K x [y] H2 Q) : tJoin K to te σ H Q := q
theorem g_jn {a : Str} {p : Addr} {ys : List Str} (h : H p = some (.lst (ys.map V.str))) (hz : (ys.map (·.length)).sum + ys.length * a.length ≤ 16777216) (q : Q (.str (Txt.join a ys)) H) : rJoin K (.str a) [.ref p] H Q := ⟨a, p, ys, rfl, rfl, .inl (sq_l h), hz, q⟩
theorem g_isS {a : Str} {P : Prop} (q : P) : (∃ b, V.str a = V.str b) ∧ P := ⟨⟨a, rfl⟩, q⟩
/-! ### fields -/
def rFld (K : PySem.W.Frag) (f : Str) (x : V) (H : Hp) (Q : VK) : Prop := ∃ a C dx fs v, x = .ref a ∧ H a = some (.ins C dx fs) ∧ Cls K C ∧ NoAttr K C f ∧ fs.lookup f = some v ∧ Q v H
theorem g_fld {f : Str} (q : ta σ H fun x H1 => rFld K f x H1 Q) : tFld K ta f σ H Q := q
theorem g_f {f : Str} {a C dx : Addr} {fs : List (Str × V)} (h : H a = some (.ins C dx fs)) (cl : Cls K C) (n : NoAttr K C f) (l : fs.lookup f = some v) (q : Q v H) : rFld K f (.ref a) H Q := ⟨a, C, dx, fs, v, rfl, h, cl, n, l, q⟩
def rSt (K : PySem.W.Frag) (f : Str) (y x : V) (H : Hp) (N : Hp → Prop) : Prop := ∃ a C dx fs, x = .ref a ∧ H a = some (.ins C dx fs) ∧ Cls K C ∧ NoAttr K C f ∧ fs.length < 1000 ∧ N (upd H a (.ins C dx (putF f y fs)))
theorem g_st {f : Str} (q : tb σ H fun y H1 => ta σ H1 fun x H2 => rSt K f y x H2 fun H3 => nx σ H3) : sFld K ta tb f ⟨nx, rt, bk, ct⟩ σ H := q
theorem g_s {f : Str} {y : V} {a C dx : Addr} {fs : List (Str × V)} {N : Hp → Prop} (h : H a = some (.ins C dx fs)) (cl : Cls K C) (n : NoAttr K C f) (l : fs.length < 1000) (q : N (upd H a (.ins C dx (putF f y fs)))) : rSt K f y (.ref a) H N := ⟨a, C, dx, fs, rfl, h, cl, n, l, q⟩
/-! ### calls -/
theorem g_call {sp : Sp} {tx : TA} (q : tx σ H fun vs H1 => sp (vs ++ []) H1 Q E0) : tCall sp [] E0 tx σ H Q := q
def kMk (C : Addr) (sp : Sp) (vs : List V) (H : Hp) (Q : VK) : Prop := ∀ x dx, H x = none → H dx = none → dx ≠ x → sp (.ref x :: (vs ++ [])) (upd (upd H dx (.own x)) x (.ins C dx [])) (fun v H2 => v = .non ∧ Q (.ref x) H2) E0
theorem g_make {C : Addr} {sp : Sp} {tx : TA} (q : tx σ H fun vs H1 => kMk C sp vs H1 Q) : tMake C sp [] E0 tx σ H Q := q
def rMeth (C : Addr) (m : Str) (sp : Sp) (tx : TA) (σ : L2.St) (x : V) (H : Hp) (Q : VK) : Prop := ∃ a dx fs, x = .ref a ∧ H a = some (.ins C dx fs) ∧ fs.lookup m = none ∧ tx σ H fun vs H2 => sp (x :: (vs ++ [])) H2 Q E0
theorem g_meth {C : Addr} {m : Str} {sp : Sp} {tx : TA} (q : ta σ H fun x H1 => rMeth C m sp tx σ x H1 Q) : tMeth C m sp [] E0 ta tx σ H Q := q
theorem g_mt {C : Addr} {m : Str} {sp : Sp} {tx : TA} {a dx : Addr} {fs : List (Str × V)} (h : H a = some (.ins C dx fs)) (l : fs.lookup m = none) (q : tx σ H fun vs H2 => sp (.ref a :: (vs ++ [])) H2 Q E0) : rMeth C m sp tx σ (.ref a) H Q := ⟨a, dx, fs, rfl, h, l, q⟩
def rProp (C : Addr) (sp : Sp) (x : V) (H : Hp) (Q : VK) : Prop := ∃ a dx fs, x = .ref a ∧ H a = some (.ins C dx fs) ∧ sp [.ref a] H Q E0
theorem g_prop {C : Addr} {sp : Sp} (q : ta σ H fun x H1 => rProp C sp x H1 Q) : tProp C sp [] E0 ta σ H Q := q
theorem g_pr {C : Addr} {sp : Sp} {a dx : Addr} {fs : List (Str × V)} (h : H a = some (.ins C dx fs)) (q : sp [.ref a] H Q E0) : rProp C sp (.ref a) H Q := ⟨a, dx, fs, rfl, h, q⟩
end
end LS

/-! Line strikes, layer V: values and cells: how they stand in the heap; the mathematics of their letters. -/
namespace LS
open PySem PySem.Spec PyProof.Rows L2

/-! ### texts as lists of signs -/
abbrev st (l : List Nat) : Str := SX.S l
theorem st_len (l : List Nat) : (st l).length = l.length := SX.S_len l
theorem st_inj {a b : List Nat} : st a = st b ↔ a = b := ⟨SX.S_inj, fun h => by rw [h]⟩
theorem st_size (l : List Nat) : (st l).cps.size = l.length := by simp [SX.S]
theorem st_list (l : List Nat) : (st l).cps.toList = l := by simp [SX.S]
theorem join_sgn (l : List Nat) : Txt.join (st []) (l.map sgn) = st l := by
  have e : l.map sgn = (l.map fun c => [c]).map SX.S := by
    rw [List.map_map]
    rfl
  rw [e, SX.join_S]
  congr 1
  induction l with
  | nil => rfl
  | cons x r ih =>
    cases r with
    | nil => rfl
    | cons y t =>
      show [x] ++ ([] ++ TL.joinL [] ((y :: t).map fun c => [c])) = x :: y :: t
      have e2 : (y :: t).map sgn = ((y :: t).map fun c => [c]).map SX.S := by
        rw [List.map_map]
        rfl
      rw [ih e2]
      rfl
theorem sum_ones (l : List Nat) : ((l.map sgn).map (·.length)).sum = l.length := by
  induction l with
  | nil => rfl
  | cons x r ih =>
    rw [List.map_cons, List.map_cons, List.sum_cons, ih]
    show 1 + r.length = r.length + 1
    omega

/-! ### the letters of a number -/
def sub : List Nat → Nat → List Nat
  | [], _ => []
  | c :: r, n => if n % 2 = 1 then c :: sub r (n / 2) else sub r (n / 2)
theorem sub_given : ∀ (ls : List Nat) (n : Nat), given ls.length (fun i => decide (n / 2 ^ i % 2 = 1)) (fun i => .str (sgn (ls.getD i 0))) = (sub ls n).map fun c => V.str (sgn c)
  | [], n => rfl
  | c :: r, n => by
    have ih := sub_given r (n / 2)
    unfold given at ih ⊢
    rw [List.length_cons, List.range_succ_eq_map, List.filter_cons]
    have e : (List.filter (fun i => decide (n / 2 ^ i % 2 = 1)) (List.map Nat.succ (List.range r.length))).map (fun i => V.str (sgn ((c :: r).getD i 0))) = (sub r (n / 2)).map fun c => V.str (sgn c) := by
      rw [← ih, List.filter_map, List.map_map]
      have e2 : ((fun i => decide (n / 2 ^ i % 2 = 1)) ∘ Nat.succ) = fun i => decide (n / 2 / 2 ^ i % 2 = 1) := by
        funext i
        show decide (n / 2 ^ (i + 1) % 2 = 1) = _
        rw [Nat.pow_succ, Nat.mul_comm, Nat.div_div_eq_div_mul]
      rw [e2]
      rfl
    have e0 : n / 2 ^ 0 = n := by simp
    unfold sub
    by_cases h : n % 2 = 1
    · rw [if_pos (by rw [e0]; exact decide_eq_true h), if_pos h, List.map_cons, List.map_cons, e]
      rfl
    · rw [if_neg (by rw [e0]; simp [h]), if_neg h, e]
theorem sub_len : ∀ (ls : List Nat) (n : Nat), (sub ls n).length ≤ ls.length
  | [], _ => Nat.le_refl _
  | c :: r, n => by
    have := sub_len r (n / 2)
    unfold sub
    split
    · rw [List.length_cons, List.length_cons]; omega
    · rw [List.length_cons]; omega
theorem sub_mem : ∀ {ls : List Nat} {n c : Nat}, c ∈ sub ls n → c ∈ ls
  | [], _, _, h => by simp [sub] at h
  | x :: r, n, c, h => by
    unfold sub at h
    split at h
    · rcases List.mem_cons.mp h with z | z
      · rw [z]; exact List.mem_cons_self
      · exact List.mem_cons_of_mem _ (sub_mem z)
    · exact List.mem_cons_of_mem _ (sub_mem h)
theorem sub_nodup : ∀ {ls : List Nat} {n : Nat}, ls.Nodup → (sub ls n).Nodup
  | [], _, _ => by simp [sub]
  | x :: r, n, h => by
    obtain ⟨h1, h2⟩ := List.nodup_cons.mp h
    unfold sub
    split
    · exact List.nodup_cons.mpr ⟨fun z => h1 (sub_mem z), sub_nodup h2⟩
    · exact sub_nodup h2
/-- the number of some letters -/
def num : List Nat → List Nat → Nat
  | _, [] => 0
  | ls, c :: r => 2 ^ ls.idxOf c + num ls r
theorem num_cons {x : Nat} {ls : List Nat} : ∀ {ts : List Nat}, x ∉ ts → num (x :: ls) ts = 2 * num ls ts
  | [], _ => rfl
  | c :: r, h => by
    have hc : x ≠ c := fun e => h (by rw [e]; exact List.mem_cons_self)
    have hr : x ∉ r := fun e => h (List.mem_cons_of_mem _ e)
    unfold num
    rw [num_cons hr, List.idxOf_cons]
    have e : (x == c) = false := beq_eq_false_iff_ne.mpr hc
    rw [e]
    show 2 ^ (ls.idxOf c + 1) + 2 * num ls r = 2 * (2 ^ ls.idxOf c + num ls r)
    rw [Nat.pow_succ]
    omega
theorem num_sub : ∀ {ls : List Nat} {n : Nat}, ls.Nodup → n < 2 ^ ls.length → num ls (sub ls n) = n
  | [], n, _, h => by
    have : n = 0 := by simpa using h
    rw [this]
    rfl
  | x :: r, n, h, hn => by
    obtain ⟨h1, h2⟩ := List.nodup_cons.mp h
    have hn2 : n / 2 < 2 ^ r.length := by
      rw [List.length_cons, Nat.pow_succ] at hn
      omega
    have ih := num_sub h2 hn2
    have hx : x ∉ sub r (n / 2) := fun z => h1 (sub_mem z)
    unfold sub
    split
    · unfold num
      rw [num_cons hx, ih, List.idxOf_cons]
      simp
      omega
    · rw [num_cons hx, ih]
      omega
theorem sub_one : ∀ {ls : List Nat} {i c : Nat}, ls[i]? = some c → ls.Nodup → sub ls (2 ^ i) = [c]
  | [], _, _, h, _ => by simp at h
  | x :: r, 0, c, h, _ => by
    have e : x = c := by simpa using h
    have z : ∀ l : List Nat, sub l 0 = [] := fun l => by
      induction l with
      | nil => rfl
      | cons y t ih => unfold sub; simpa using ih
    unfold sub
    simp [e, z]
  | x :: r, i + 1, c, h, nd => by
    obtain ⟨_, h2⟩ := List.nodup_cons.mp nd
    have ih := sub_one (i := i) (c := c) (by simpa using h) h2
    unfold sub
    have e : 2 ^ (i + 1) % 2 = 0 := by rw [Nat.pow_succ]; omega
    have e2 : 2 ^ (i + 1) / 2 = 2 ^ i := by rw [Nat.pow_succ]; omega
    rw [if_neg (by omega), e2, ih]
/-- where a sign stands first -/
theorem occ_stay (x y : Str) (hi : Nat) : ∀ (l : List Nat) (s : Array Nat × Nat), ¬ s.fst.size < 1 → (forIn l s (StrLaws.occBody x y hi 1)).run.fst = s.fst
  | [], s, _ => rfl
  | a :: l, s, h => by
    rw [List.forIn_cons]
    unfold StrLaws.occBody
    rw [if_neg (fun z => h z.1.1.1)]
    exact occ_stay x y hi l _ h
theorem occ_rng (x y : Str) (hi : Nat) {i : Nat} (hm : i + y.length ≤ hi ∧ Builtin.Str.subAt x y i = true) (hn : ∀ j, j < i → ¬ (j + y.length ≤ hi ∧ Builtin.Str.subAt x y j = true)) : ∀ (m k f : Nat), f ≤ k → k ≤ i → i < k + m →
    (forIn (List.range' k m) ((#[] : Array Nat), f) (StrLaws.occBody x y hi 1)).run.fst = #[i]
  | 0, k, f, _, h1, h2 => by omega
  | m + 1, k, f, h0, h1, h2 => by
    rw [List.range'_succ, List.forIn_cons]
    unfold StrLaws.occBody
    by_cases e : k = i
    · subst e
      rw [if_pos ⟨⟨⟨by simp, h0⟩, hm.1⟩, hm.2⟩]
      exact occ_stay x y hi _ _ (by simp)
    · rw [if_neg (fun z => hn k (by omega) ⟨z.1.2, z.2⟩)]
      exact occ_rng x y hi hm hn m (k + 1) f (by omega) (by omega) (by omega)
theorem before_idx {c : Nat} : ∀ (ls : List Nat) (j : Nat), j < ls.idxOf c → ls[j]? ≠ some c
  | [], j, h, _ => by simp at h
  | x :: r, 0, h, e => by
    have ex : x = c := by simpa using e
    rw [ex, List.idxOf_cons] at h
    simp at h
  | x :: r, j + 1, h, e => by
    rw [List.idxOf_cons] at h
    by_cases ex : x = c
    · rw [ex] at h
      simp at h
    · have e2 : (x == c) = false := beq_eq_false_iff_ne.mpr ex
      rw [e2] at h
      exact before_idx r j (by simpa using h) (by simpa using e)
theorem occ_one {ls : List Nat} {c : Nat} (h : c ∈ ls) : Builtin.Str.occurrences (st ls) (sgn c) 0 (st ls).length 1 = ls.idxOf c :: [] := by
  have hlt : ls.idxOf c < ls.length := List.idxOf_lt_length_iff.mpr h
  have hit : ls[ls.idxOf c]? = some c := by
    rw [List.getElem?_eq_getElem hlt]
    simp
  rw [StrLaws.occ_eq, occ_rng (st ls) (sgn c) (st ls).length (i := ls.idxOf c) ((StrLaws.subAt_one (st ls) c _).mpr (by rw [st_list]; exact hit)) (fun j hj z => ?_) _ 0 0 (Nat.le_refl _) (Nat.zero_le _) (by rw [st_len]; omega)]
  have q := (StrLaws.subAt_one (st ls) c j).mp z
  rw [st_list] at q
  exact before_idx ls j hj q

/-! ### how they stand -/
abbrev CV (K : PySem.W.Frag) : Addr := He.ga K "Values"
abbrev CC (K : PySem.W.Frag) : Addr := He.ga K "Cell"
def vF (ls : List Nat) : List (Str × V) := [("letters", .str (st ls))]
def cF (va : Addr) (n : Nat) (ls : List Nat) : List (Str × V) := [("alphabet", .ref va), ("number", .int (n : Int)), ("letters", .str (st ls))]
def ValsAt (K : PySem.W.Frag) (H : Hp) (a : Addr) (ls : List Nat) : Prop := ∃ dx, H a = some (.ins (CV K) dx (vF ls))
def CellAt (K : PySem.W.Frag) (H : Hp) (a va : Addr) (ls : List Nat) (n : Nat) : Prop := (∃ dx, H a = some (.ins (CC K) dx (cF va n (sub ls n)))) ∧ ValsAt K H va ls ∧ n < 2 ^ ls.length
def alpha : List Nat := [97, 98, 99, 100, 101, 102, 103, 104, 105, 106, 107, 108, 109, 110, 111, 112, 113, 114, 115, 116, 117, 118, 119, 120, 121, 122]
theorem alpha_st : ("abcdefghijklmnopqrstuvwxyz" : Str) = st alpha := by decide +kernel
structure OkL (ls : List Nat) : Prop where
  l2 : 2 ≤ ls.length
  l4 : ls.length ≤ 4
  nd : ls.Nodup
  al : ∀ c ∈ ls, c ∈ alpha
theorem ne_an : ¬ (("alphabet" : Str) = "number") := by decide +kernel
theorem ne_al : ¬ (("alphabet" : Str) = "letters") := by decide +kernel
theorem ne_nl : ¬ (("number" : Str) = "letters") := by decide +kernel
theorem vF_put (ls : List Nat) : putF "letters" (.str (st ls)) [] = vF ls := rfl
theorem cF_put (va : Addr) (n : Nat) (ls : List Nat) : putF "letters" (.str (st ls)) (putF "number" (.int (n : Int)) (putF "alphabet" (.ref va) [])) = cF va n ls := by
  show putF "letters" (.str (st ls)) (if ("alphabet" : Str) = "number" then [(("alphabet" : Str), V.int (n : Int))] else (("alphabet" : Str), V.ref va) :: [("number", V.int (n : Int))]) = _
  rw [if_neg ne_an]
  show (if ("alphabet" : Str) = "letters" then _ else (("alphabet" : Str), V.ref va) :: (if ("number" : Str) = "letters" then _ else (("number" : Str), V.int (n : Int)) :: [("letters", V.str (st ls))])) = _
  rw [if_neg ne_al, if_neg ne_nl]
  rfl
section
variable {K : PySem.W.Frag} {H H' : Hp} {a va pn : Addr} {ls : List Nat} {n : Nat}
theorem ValsAt.ex (e : Ex H H') (h : ValsAt K H a ls) : ValsAt K H' a ls := let ⟨dx, z⟩ := h; ⟨dx, e _ _ z⟩
theorem CellAt.ex (e : Ex H H') (h : CellAt K H a va ls n) : CellAt K H' a va ls n := let ⟨⟨dx, z⟩, v, hn⟩ := h; ⟨⟨dx, e _ _ z⟩, v.ex e, hn⟩
/-- what is no list is none of the pen's -/
def Kept (H H' : Hp) : Prop := ∀ a o, (∀ xs, o ≠ .lst xs) → H a = some o → H' a = some o
theorem Ex.kept (e : Ex H H') : Kept H H' := fun a o _ z => e a o z
theorem Kept.tr {H2 : Hp} (x : Kept H H') (y : Kept H' H2) : Kept H H2 := fun a o n z => y a o n (x a o n z)
theorem ValsAt.kp (e : Kept H H') (h : ValsAt K H a ls) : ValsAt K H' a ls := let ⟨dx, z⟩ := h; ⟨dx, e _ _ (fun _ q => nomatch q) z⟩
theorem CellAt.kp (e : Kept H H') (h : CellAt K H a va ls n) : CellAt K H' a va ls n := let ⟨⟨dx, z⟩, v, hn⟩ := h; ⟨⟨dx, e _ _ (fun _ q => nomatch q) z⟩, v.kp e, hn⟩
end
end LS

/-! Line strikes, layer E: more single steps: isinstance by kinds, comprehensions with a state, the pen. -/
namespace LS
open PySem PySem.Spec PyProof.Rows L2
section
variable {K : PySem.W.Frag} {σ : L2.St} {H : Hp} {nx bk ct : L2.St → Hp → Prop} {rt : VK} {t u : TS} {c : TT} {te ta tb tc : TE} {i : Nat} {v : V} {Q : VK}
/-! ### isinstance by kinds -/
theorem isi_ss {z : Str} (q : Q (.bl true) H) : rIsi K [.str z, .ty "str"] H Q := g_isi (b := true) (.ty _) (.base (.str _)) (kit_ty (by decide +kernel)) q
theorem isi_ii {z : Int} (q : Q (.bl true) H) : rIsi K [.int z, .ty "int"] H Q := g_isi (b := true) (.ty _) (.base (.int _)) (kit_ty (by decide +kernel)) q
theorem isi_ib {z : Int} (q : Q (.bl false) H) : rIsi K [.int z, .ty "bool"] H Q := g_isi (b := false) (.ty _) (.base (.int _)) (kit_ty (by decide +kernel)) q
theorem isi_bb {z : Bool} (q : Q (.bl true) H) : rIsi K [.bl z, .ty "bool"] H Q := g_isi (b := true) (.ty _) (.base (.bl _)) (kit_ty (by decide +kernel)) q
theorem isi_o {a C dx : Addr} {fs : List (Str × V)} {cv : V} {u : Value} {b : Bool} (h : H a = some (.ins C dx fs)) (cl : Cls K C) (I : InsF K C) (k : ClsV cv u) (e : PySem.W.kitOne K (.ref C) u = some b) (q : Q (.bl b) H) : rIsi K [.ref a, cv] H Q :=
  g_isi k (.base (.ins h cl I.ha I.hn I.htk I.hm)) e q
/-- isinstance(x, (list, tuple)) -/
theorem isi_lt {p tp : Addr} {xs : List V} (h : H p = some (.lst xs)) (ht : H tp = some (.tup [.ty "list", .ty "tuple"])) (q : Q (.bl true) H) : rIsiT K [.ref p, .ref tp] H Q :=
  g_isiT (b := true) ht (.cons (.ty _) (.cons (.ty _) .nil)) (.base (.lst h)) (kitAny_cons (b := true) (kit_ty (by decide +kernel)) (fun z => nomatch z) fun _ => rfl) q
theorem isi_tt {p tp : Addr} {xs : List V} (h : H p = some (.tup xs)) (ht : H tp = some (.tup [.ty "list", .ty "tuple"])) (q : Q (.bl true) H) : rIsiT K [.ref p, .ref tp] H Q :=
  g_isiT (b := true) ht (.cons (.ty _) (.cons (.ty _) .nil)) (.base (.tup h)) (kitAny_cons (b := false) (kit_ty (by decide +kernel)) (fun _ => kitAny_cons (b := true) (kit_ty (by decide +kernel)) (fun z => nomatch z) fun _ => rfl) fun z => nomatch z) q
/-! ### items of lists -/
theorem given_map {α : Type} (xs : List α) (d : α) (f : α → V) : given xs.length (fun _ => true) (fun i => f (xs.getD i d)) = xs.map f := by
  unfold given
  rw [List.filter_eq_self.mpr (fun _ _ => rfl)]
  apply List.ext_getElem?
  intro i
  rw [List.getElem?_map, List.getElem?_map]
  by_cases h : i < xs.length
  · rw [List.getElem?_range h, List.getElem?_eq_getElem h]
    show some (f (xs.getD i d)) = some (f xs[i])
    simp [List.getD, h]
  · rw [List.getElem?_eq_none (by rw [List.length_range]; omega), List.getElem?_eq_none (by omega)]
    rfl
theorem given_mapB {α : Type} (xs : List α) (d : α) (f : α → Bool) : given xs.length (fun _ => true) (fun i => .bl (f (xs.getD i d))) = (xs.map f).map V.bl := by
  rw [given_map xs d fun x => V.bl (f x), List.map_map]
  rfl
theorem all_dec {α : Type} (xs : List α) (p : α → Prop) [DecidablePred p] : (xs.map fun x => decide (p x)).all id = decide (∀ x ∈ xs, p x) := by
  induction xs with
  | nil => rfl
  | cons x r ih =>
    rw [List.map_cons, List.all_cons, ih]
    show (decide (p x) && _) = _
    by_cases h : p x <;> by_cases h2 : ∀ y ∈ r, p y <;> simp [h, h2]
theorem any_dec {α : Type} (xs : List α) (p : α → Prop) [DecidablePred p] : (xs.map fun x => decide (p x)).any id = decide (∃ x ∈ xs, p x) := by
  induction xs with
  | nil => rfl
  | cons x r ih =>
    rw [List.map_cons, List.any_cons, ih]
    show (decide (p x) || _) = _
    by_cases h : p x <;> by_cases h2 : ∃ y ∈ r, p y <;> simp [h, h2]
theorem getD_of {α : Type} {xs : List α} {i : Nat} {x d : α} (h : xs[i]? = some x) : xs.getD i d = x := by simp [List.getD, h]
/-- the walk over a text: its signs -/
theorem str_item {l : List Nat} {i c : Nat} (h : (st l).cps[i]? = some c) : l.getD i 0 = c ∧ l[i]? = some c := by
  have e : l[i]? = some c := by simpa [SX.S] using h
  exact ⟨getD_of e, e⟩
/-- a comprehension with a state of its own -/
theorem g_lcI {J : It} {n : Nat} {G : Hp → Prop} {Y : Nat → Hp → V → Hp → Prop} {g : TG} {tt : TT} {vs : List Nat} (w : Walk J n G Y) (hn : n ≤ 4001) (I : Addr → Nat → List V → Hp → Prop)
    (start : ∀ D H', H D = none → H' = upd H D (.lst []) → I D 0 [] H') (hG : ∀ D i acc H', H D = none → H' D = some (.lst acc) → I D i acc H' → G H')
    (turn : ∀ D i acc x H1 H2, i < n → H D = none → H1 D = some (.lst acc) → acc.length ≤ i → I D i acc H1 → Y i H1 x H2 → ∀ (Yes : V → Hp → Prop) (No : Hp → Prop),
      (∀ y H5, H5 D = some (.lst acc) → I D (i + 1) (acc ++ [y]) (upd H5 D (.lst (acc ++ [y]))) → Yes y H5) → (∀ H4, H4 D = some (.lst acc) → I D (i + 1) acc H4 → No H4) →
      g x (wipe σ vs) H2 fun σ2 H3 => wipe σ2 vs = wipe σ vs ∧ tt σ2 H3 fun b H4 => if b = true then te σ2 H4 fun y H5 => Yes y H5 else No H4)
    (q : ∀ D acc H', H D = none → acc.length ≤ n → H' D = some (.lst acc) → I D n acc H' → Q (.ref D) H') : kLc J g tt te vs σ H Q := by
  intro D hD
  refine ⟨fun i m H' => m = n - i ∧ i ≤ n ∧ ∃ acc, H' D = some (.lst acc) ∧ acc.length ≤ i ∧ I D i acc H', ⟨n, by simp, Nat.zero_le _, [], upd_same, Nat.le_refl _, start D _ hD rfl⟩, ?_⟩
  rintro i m H1 ⟨rfl, hi, acc, hl, ha, p⟩
  have gq := hG D i acc H1 hD hl p
  by_cases hlt : i < n
  · refine .inr ⟨w.goes i H1 hlt gq, fun H' => ∃ acc, H' D = some (.lst acc) ∧ acc.length ≤ i + 1 ∧ I D (i + 1) acc H', fun H' ⟨acc, z1, z2, z3⟩ => ⟨n - (i + 1), by omega, rfl, hlt, acc, z1, z2, z3⟩, fun x H' y => ?_⟩
    refine turn D i acc x H1 H' hlt hD hl ha p (w.yields i H1 x H' hlt gq y) (fun y H4 => ∃ acc, H4 D = some (.lst acc) ∧ acc.length < sizeLine ∧ ∃ acc2, (upd H4 D (.lst (acc ++ [y]))) D = some (.lst acc2) ∧ acc2.length ≤ i + 1 ∧ I D (i + 1) acc2 (upd H4 D (.lst (acc ++ [y])))) _ (fun y H5 z1 z2 => ?_) (fun H4 z1 z2 => ?_)
    · exact ⟨acc, z1, Nat.lt_of_lt_of_le (show acc.length < 5000 by omega) (by decide), acc ++ [y], upd_same, by rw [List.length_append]; exact Nat.succ_le_succ ha, z2⟩
    · exact ⟨acc, z1, Nat.le_succ_of_le ha, z2⟩
  · have e : i = n := by omega
    subst e
    exact .inl ⟨w.stops H1 gq, q D acc H1 hD ha hl p⟩
/-- a for, its walk known -/
def kFor (J : It) (g : TG) (tb : TS) (D : Ends) (σ : L2.St) (H : Hp) : Prop := ∃ W : Nat → Nat → L2.St → Hp → Prop, (∃ m, W 0 m σ H) ∧ ∀ i m σ H, W i m σ H →
  (J.stop i H ∧ D.nx σ H) ∨ (J.go i H ∧ ∃ N : L2.St → Hp → Prop, (∀ σ' H', N σ' H' → ∃ m', m' < m ∧ W (i + 1) m' σ' H') ∧ ∀ x H', J.yld i H x H' → g x σ H' fun σ2 H2 => tb { D with nx := N, ct := N, bk := D.nx } σ2 H2)
theorem g_for {wi : TI} {g : TG} {tb : TS} {D : Ends} (q : wi σ H fun J H1 => kFor J g tb D σ H1) : tFor wi g tb D σ H := q
theorem g_forW {J : It} {n : Nat} {G : Hp → Prop} {Y : Nat → Hp → V → Hp → Prop} {g : TG} {tb : TS} (w : Walk J n G Y) (Pv : Nat → L2.St → Hp → Prop) (h0 : Pv 0 σ H) (hG : ∀ i σ H, i ≤ n → Pv i σ H → G H)
    (hs : ∀ i x σ H H', i < n → Pv i σ H → Y i H x H' → g x σ H' fun σ2 H2 => tb ⟨Pv (i + 1), rt, nx, Pv (i + 1)⟩ σ2 H2) (hd : ∀ σ H, Pv n σ H → nx σ H) : kFor J g tb ⟨nx, rt, bk, ct⟩ σ H := for_it w Pv h0 hG hs hd
theorem g_iRng2 {tx : TA} {R : It → Hp → Prop} (q : tx σ H fun vs H1 => ∃ i j : Int, vs = [.int i, .int j] ∧ (-(2 ^ 62) ≤ i ∧ i < 2 ^ 62 ∧ -(2 ^ 62) ≤ j ∧ j < 2 ^ 62) ∧ R (Itr i (j - i).toNat) H1) : iRng2 tx σ H R := q
theorem g_r2 {a b : Int} {P : Int → Int → Prop} (h0 : 0 ≤ a ∧ a ≤ 1000000) (h1 : 0 ≤ b ∧ b ≤ 1000000) (q : P a b) : ∃ i j : Int, [V.int a, V.int b] = [V.int i, V.int j] ∧ (-(2 ^ 62) ≤ i ∧ i < 2 ^ 62 ∧ -(2 ^ 62) ≤ j ∧ j < 2 ^ 62) ∧ P i j := ⟨a, b, rfl, by omega, q⟩
theorem g_iTup {R : It → Hp → Prop} (q : te σ H fun x H1 => ∃ a, x = .ref a ∧ (∃ xs, SqT K H1 a xs) ∧ R (Itt K a) H1) : iTup K te σ H R := q
theorem g_iU {a : Addr} {xs : List V} {P : Addr → Prop} (h : SqT K H a xs) (q : P a) : ∃ b, V.ref a = V.ref b ∧ (∃ xs, SqT K H b xs) ∧ P b := ⟨a, rfl, ⟨xs, h⟩, q⟩
theorem g_iEnum {tx : TA} {R : It → Hp → Prop} (q : tx σ H fun vs H1 => ∃ a xs, vs = [.ref a] ∧ SqL K H1 a xs ∧ R (Ite K a) H1) : iEnum K tx σ H R := q
theorem g_iE {a : Addr} {xs : List V} {P : Addr → Prop} (h : SqL K H a xs) (q : P a) : ∃ b xs, [V.ref a] = [V.ref b] ∧ SqL K H b xs ∧ P b := ⟨a, xs, rfl, h, q⟩
theorem g_iZip {tx : TA} {R : It → Hp → Prop} (q : tx σ H fun vs H1 => ∃ a b xs ys, vs = [.ref a, .ref b] ∧ SqL K H1 a xs ∧ SqL K H1 b ys ∧ R (Itz K a b) H1) : iZip K tx σ H R := q
theorem g_iZ {a b : Addr} {xs ys : List V} {P : Addr → Addr → Prop} (h : SqL K H a xs) (h2 : SqL K H b ys) (q : P a b) : ∃ a' b' xs ys, [V.ref a, V.ref b] = [V.ref a', V.ref b'] ∧ SqL K H a' xs ∧ SqL K H b' ys ∧ P a' b' := ⟨a, b, xs, ys, rfl, h, h2, q⟩
theorem g_ixU {p : Addr} {xs : List V} {k : Int} (h : SqT K H p xs) (e : atI xs k = some v) (q : Q v H) : rIxT K (.ref p) (.int k) H Q := ⟨p, xs, k, v, rfl, rfl, h, e, q⟩
def rCVal (K : PySem.W.Frag) (f : Str) (x : V) (H : Hp) (Q : VK) : Prop := ∃ C mc v u, x = .ref C ∧ ClX.CRead K C mc ∧ ClX.CVal K C mc f v u ∧ Q v H
theorem g_cval {f : Str} (q : ta σ H fun x H1 => rCVal K f x H1 Q) : ClX.tCVal K ta f σ H Q := q
theorem g_cv {f : Str} {C : Addr} {mc : Value} (r : ClX.CRead K C mc) (k : ∃ u, ClX.CVal K C mc f v u) (q : Q v H) : rCVal K f (.ref C) H Q := let ⟨u, k⟩ := k; ⟨C, mc, v, u, rfl, r, k, q⟩
/-! ### the pen -/
/-- the pen at pn, its script's copy at c; at most m draws so far -/
def PenAt (H : Hp) (pn c : Addr) (m : Nat) : Prop := ∃ (cs : List Int) (i r : Int), c ≠ pn ∧ H pn = some (.lst [.ref c, .int i, .int r]) ∧ H c = some (.lst (cs.map V.int)) ∧ 0 ≤ i ∧ i ≤ m ∧ cs.length ≤ 63
variable {H' H1 : Hp} {pn cp D a : Addr} {m m' : Nat} {o : HO}
theorem PenAt.le (h : PenAt H pn cp m) (e : m ≤ m') : PenAt H pn cp m' := let ⟨cs, i, r, h1, h2, h3, h4, h5, h6⟩ := h; ⟨cs, i, r, h1, h2, h3, h4, by omega, h6⟩
theorem PenAt.ex (e : Ex H H') (h : PenAt H pn cp m) : PenAt H' pn cp m := let ⟨cs, i, r, h1, h2, h3, h4⟩ := h; ⟨cs, i, r, h1, e _ _ h2, e _ _ h3, h4⟩
theorem PenAt.fr (h : PenAt H pn cp m) (n : H D = Option.none) : D ≠ pn ∧ D ≠ cp := by
  obtain ⟨cs, i, r, h1, h2, h3, h4⟩ := h
  refine ⟨fun z => ?_, fun z => ?_⟩
  · rw [z, h2] at n; cases n
  · rw [z, h3] at n; cases n
theorem PenAt.up (h : PenAt H pn cp m) (n : D ≠ pn ∧ D ≠ cp) : PenAt (upd H D o) pn cp m :=
  let ⟨cs, i, r, h1, h2, h3, h4⟩ := h; ⟨cs, i, r, h1, (upd_ne (Ne.symm n.1)).trans h2, (upd_ne (Ne.symm n.2)).trans h3, h4⟩
theorem PenAt.ne (h : PenAt H pn cp m) (e : H a = some o) (z : ∀ c i r, o ≠ .lst [.ref c, .int i, .int r]) : a ≠ pn := by
  obtain ⟨cs, i, r, h1, h2, h3, h4⟩ := h
  intro ea
  rw [ea, h2] at e
  exact z _ _ _ (Option.some.inj e).symm
theorem PenAt.ins {C dx : Addr} {fs : List (Str × V)} (h : PenAt H pn cp m) (e : H a = some (.ins C dx fs)) : a ≠ pn := h.ne e fun _ _ _ z => nomatch z
theorem PenAt.tup {xs : List V} (h : PenAt H pn cp m) (e : H a = some (.tup xs)) : a ≠ pn := h.ne e fun _ _ _ z => nomatch z
theorem PenAt.ints {ns : List Int} (h : PenAt H pn cp m) (e : H a = some (.lst (ns.map V.int))) : a ≠ pn := h.ne e fun c i r z => by
  cases ns with
  | nil => cases z
  | cons x t => simp at z
theorem PenAt.refs {ns : List Addr} (h : PenAt H pn cp m) (e : H a = some (.lst (ns.map V.ref))) : a ≠ pn := h.ne e fun c i r z => by
  cases ns with
  | nil => cases z
  | cons x t =>
    cases t with
    | nil => simp at z
    | cons y u => simp at z
theorem Ep.up (e : Ep pn H H1) (n : H D = Option.none) : Ep pn H (upd H1 D o) := fun b u nb z => (upd_ne (ne_of_none z n)).trans (e b u nb z)
theorem Ex.up (e : Ex H H1) (n : H D = Option.none) : Ex H (upd H1 D o) := fun b u z => (upd_ne (ne_of_none z n)).trans (e b u z)
theorem Ep.nw (n : H D = Option.none) : Ep pn H (upd H D o) := Ep.up Ep.rfl' n
end
end LS

/-! Line strikes, layer U: enumerate(tuple), bool(text). -/
namespace LS
open PySem PySem.Spec PyProof.Rows L2
section
variable {prog : Program} {w : World} {A : Around} {E : Value → Shared → Prop} {s : Shared}
theorem drawU_item {u l : Addr} {i : Nat} {vs : Array Value} {x : Value} {Q : Value → Shared → Prop} (h1 : s.heap.IsTupleIter u l i) (h2 : s.heap.IsTuple l vs) (hx : vs[i]? = some x)
    (k : ∀ h', h'.IsTupleIter u l (i + 1) → Heap.SameBut u s.heap h' → Q x { s with heap := h' }) : wpAny (model prog w) A (Builtin.SmallTypes.nextOf (.ref u)) Q E s := by
  obtain ⟨ob, g1, g2, g3⟩ := id h1
  obtain ⟨ol, g4, _, nl, g5⟩ := h2
  unfold Builtin.SmallTypes.nextOf
  refine wpAny_bind (wpAny_callSpecial?_slot (name := Str.ofString "__next__") h1.typeIs F.slot_tuple_iterator_next (wpAny_call_entry F.slot_tuple_iterator_next h1.typeIs F.entry_tuple_iterator_next ?_ (F.args_tuple_iterator_next_1 _)))
  show wpAny _ _ (field (.ref u) 0 >>= _) _ _ s
  refine wpAny_bind (wpAny_field g1 g3 (x := .ref l) rfl ?_)
  show wpAny _ _ (if (Value.ref l == Value.none) = true then _ else _) _ _ s
  rw [if_neg (fun z : (Value.ref l == Value.none) = true => Bool.false_ne_true z)]
  show wpAny _ _ (field (.ref u) 1 >>= _) _ _ s
  refine wpAny_bind (wpAny_field g1 g3 (x := .int i 0) rfl ?_)
  show wpAny _ _ (seqItems? (.ref l) >>= _) _ _ s
  refine wpAny_bind (wpAny_seqItems g4 g5 ?_)
  simp only [Int.toNat_natCast, hx]
  refine wpAny_bind (wpAny_setField g1 g3 (by simp) (wpAny_pure ⟨x, rfl, wpAny_pure (k _ ?_ (Heap.SameBut.update ..))⟩))
  exact ⟨_, Heap.get?_update_self _ g1 (Obj.isFreed_of_fields (Obj.data_mapFields g3 _)), (Obj.cls_mapFields ..).trans g2, by rw [Obj.data_mapFields g3]; simp [rawInt]⟩
theorem drawU_end {u l : Addr} {i : Nat} {vs : Array Value} {Q : Value → Shared → Prop} (hh : A.handled = none) (h1 : s.heap.IsTupleIter u l i) (h2 : s.heap.IsTuple l vs) (hx : vs[i]? = none)
    (k : ∀ h' e, Heap.ExtBut u s.heap h' → (∃ o, h'.get? e = some o ∧ o.cls = .type "StopIteration") → E (.ref e) { s with heap := h' }) : wpAny (model prog w) A (Builtin.SmallTypes.nextOf (.ref u)) Q E s := by
  obtain ⟨ob, g1, g2, g3⟩ := id h1
  obtain ⟨ol, g4, _, nl, g5⟩ := h2
  unfold Builtin.SmallTypes.nextOf
  refine wpAny_bind (wpAny_callSpecial?_slot (name := Str.ofString "__next__") h1.typeIs F.slot_tuple_iterator_next (wpAny_call_entry F.slot_tuple_iterator_next h1.typeIs F.entry_tuple_iterator_next ?_ (F.args_tuple_iterator_next_1 _)))
  show wpAny _ _ (field (.ref u) 0 >>= _) _ _ s
  refine wpAny_bind (wpAny_field g1 g3 (x := .ref l) rfl ?_)
  show wpAny _ _ (if (Value.ref l == Value.none) = true then _ else _) _ _ s
  rw [if_neg (fun z : (Value.ref l == Value.none) = true => Bool.false_ne_true z)]
  show wpAny _ _ (field (.ref u) 1 >>= _) _ _ s
  refine wpAny_bind (wpAny_field g1 g3 (x := .int i 0) rfl ?_)
  show wpAny _ _ (seqItems? (.ref l) >>= _) _ _ s
  refine wpAny_bind (wpAny_seqItems g4 g5 ?_)
  simp only [Int.toNat_natCast, hx]
  refine wpAny_bind (wpAny_rule (wpAny_bind (wpAny_setField g1 g3 (by simp) ?_)))
  show wpAny _ _ (newExc (.type "StopIteration") [] >>= _) _ _ _
  refine wpAny_bind ?_
  simp only [newExc, newTuple]
  refine wpAny_bind (wpAny_newObj_type ?_ (by size_fits))
  refine wpAny_bind (m := firstArgMember _ _) (wpAny_of_eq (a := Value.none) (by first | rfl | (simp only [firstArgMember]; rfl)) ?_)
  refine wpAny_newObj_type ?_ (by size_fits)
  simp only [raiseNew]
  refine wpAny_bind (wpAny_handled ?_)
  first
  | rw [show A.in1.handled = none from hh]
  | rw [hh]
  refine wpAny_bind (wpAny_pure (wpAny_throw ?_))
  exact k _ _ (((Heap.SameBut.update ..).extBut.push _).push _) ⟨_, Heap.get?_push_size _ rfl, rfl⟩
theorem drawsU {prog : Program} {w : World} {A : Around} (hh : A.handled = none) (u l : Addr) (hne : l ≠ u) (vs : Array Value) :
    Draws prog w A u [u, l] vs.size (fun i v => vs[i]? = some v) (fun i h => h.IsTupleIter u l i ∧ h.IsTuple l vs) where
  live := fun _ _ z => let ⟨o, ho, _⟩ := z.1; ⟨o, ho⟩
  frame := fun _ _ _ z k => ⟨z.1.at fun o e => k u (by simp) o e, let ⟨o, ho, r⟩ := z.2; ⟨o, k l (by simp) o ho, r⟩⟩
  item := fun i s Q E hi z k => by
    refine drawU_item z.1 z.2 (x := vs[i]) (by simp [hi]) fun h' y sb => ?_
    exact k _ h' s.toks (by simp [hi]) ⟨y, let ⟨o, ho, r⟩ := z.2; ⟨o, (sb.2 l hne).trans ho, r⟩⟩ sb
  done := fun s Q E z k => drawU_end hh z.1 z.2 (by simp) k
theorem new_enumU (l : Addr) (vs : Array Value) (n : Nat) (dct : Option Addr) (sl : Array (Option Value)) :
    Meets (Builtin.«enumerate.__new__» ⟨[.type "enumerate", .ref l], []⟩) (fun _ R s => s.heap.get? l = some { cls := .type "tuple", dict := dct, data := .seq vs n, slots := sl } ∧
      R (.ok (.ret (.ref (s.heap.push { cls := .type "tuple_iterator", data := .fields #[.ref l, .int 0 0] }).objs.size)))
        { s with heap := (s.heap.push { cls := .type "tuple_iterator", data := .fields #[.ref l, .int 0 0] }).push { cls := .type "enumerate", data := .fields #[.none, .bool false, .ref s.heap.objs.size, rawInt 0, .none, .none] } }) :=
  .of_wp fun prog w A R s h => by
    obtain ⟨hp, g, d, tk, os⟩ := s
    obtain ⟨hl, h⟩ := h
    have hsub := PySem.sub_enumerate
    have hT : Heap.IsTuple (Shared.heap ⟨hp, g, d, tk, os⟩) l vs := ⟨_, hl, rfl, n, rfl⟩
    wp_walk using AutoSeq1.wpAny_loadPart' hl
    refine wpAny_stack_any fun st => wpAny_pure ?_
    split
    · rename_i c _ _ _ _ _
      cases (c == Value.type "enumerate")
      · wp_walk using AutoSeq1.wpAny_loadPart' hl, wpAny_pyIter_tuple hT
        exact ⟨_, rfl, h⟩
      · wp_walk using AutoSeq1.wpAny_loadPart' hl, wpAny_pyIter_tuple hT
        exact ⟨_, rfl, h⟩
    · wp_walk using AutoSeq1.wpAny_loadPart' hl, wpAny_pyIter_tuple hT
      exact ⟨_, rfl, h⟩
theorem end_enumU {e u l : Addr} {vs : Array Value} {i : Nat} {j : Int} {old : Value} {Q : Option Value → Shared → Prop} (hh : A.handled = none) (he : IsEnum s.heap e u j old) (h1 : s.heap.IsTupleIter u l i) (h2 : s.heap.IsTuple l vs) (hx : vs[i]? = none)
    (k : ∀ h', Heap.ExtBut u s.heap h' → Q none { s with heap := h' }) : wpAny (model prog w) A (pyNext (.ref e)) Q E s := by
  have ty : s.TypeIs (.ref e) "enumerate" := ⟨_, he, rfl⟩
  unfold pyNext
  refine wpAny_bind (wpAny_attempt (wpAny_callSpecial?_slot (name := Str.ofString "__next__") ty F.slot_enumerate_next (wpAny_call_entry F.slot_enumerate_next ty F.entry_enumerate_next ?_ (F.args_enumerate_next_1 _))))
  show wpAny _ _ (field (.ref e) 2 >>= _) _ _ _
  refine wpAny_bind (wpAny_field he rfl (x := .ref u) rfl ?_)
  refine wpAny_bind (drawU_end (by simp [hh]) h1 h2 hx fun h' x eb z => ?_)
  obtain ⟨o, ho, hc⟩ := z
  refine wpAny_bind (wpAny_isInstance (T := "StopIteration") (b := true) ⟨o, ho, hc⟩ PySem.isSubtype_stop ?_)
  exact wpAny_pure (k _ eb)
theorem call_enumU {l : Addr} {vs : Array Value} {Q : Value → Shared → Prop} (hL : s.heap.IsTuple l vs)
    (h : ∀ h', IsEnum h' (s.heap.objs.size + 1) s.heap.objs.size 0 .none → h'.IsTupleIter s.heap.objs.size l 0 → (∀ b o, s.heap.get? b = some o → h'.get? b = some o) → Q (.ref (s.heap.objs.size + 1)) { s with heap := h' }) :
    wpAny (model prog w) A (call (.type "enumerate") [.ref l]) Q E s := by
  obtain ⟨⟨c, dct, dt, sl⟩, hl, hc, n, hd⟩ := hL
  obtain rfl : c = .type "tuple" := hc
  obtain rfl : dt = .seq vs n := hd
  refine callType_new F.called_enumerate (by decide) (F.typeCall_enumerate_1 _) (F.newCall_enumerate_1 _) (fun ob => F.args_object_init_2 ob _) F.entry_enumerate_new (new_enumU l vs n dct sl) ⟨hl, ?_⟩
  have e1 : (s.heap.push { cls := .type "tuple_iterator", data := .fields #[.ref l, .int 0 0] }).objs.size = s.heap.objs.size + 1 := Heap.size_push ..
  show _ ∧ _
  rw [e1]
  have e2 := Heap.get?_push_size (s.heap.push { cls := .type "tuple_iterator", data := .fields #[.ref l, .int 0 0] }) (o := { cls := .type "enumerate", data := .fields #[.none, .bool false, .ref s.heap.objs.size, rawInt 0, .none, .none] }) rfl
  rw [e1] at e2
  exact ⟨⟨_, e2, rfl⟩, h _ e2 ⟨_, Heap.get?_push_of_some _ (Heap.get?_push_size _ rfl), rfl, rfl⟩ fun b o z => Heap.get?_push_of_some _ (Heap.get?_push_of_some _ z)⟩
end
/-- the tuple at a, each item in a new pair -/
def Iteu (K : PySem.W.Frag) (a : Addr) : It :=
  ⟨fun i H => ∃ (xs : List V) (x : V), SqT K H a xs ∧ xs[i]? = some x, fun i H v H' => ∃ T x, v = .ref T ∧ H T = none ∧ H' = upd H T (.tup [.int (i : Nat), x]) ∧ ∀ xs, SqT K H a xs → xs[i]? = some x, fun i H => ∃ xs : List V, SqT K H a xs ∧ xs.length ≤ i⟩
theorem turn_enumU {P : Program} {w : World} {K : PySem.W.Frag} {elts : List Expr} {kk : Nat} {tpos : Pos} (a e u : Addr) (hne : e ≠ u) :
    Turn P w K (.Tuple elts kk tpos) (Iteu K a) [e, u] e (fun i h => (∃ old, IsEnum h e u ((i : Nat) : Int) old) ∧ h.IsTupleIter u a i) where
  mem := by simp
  obj := fun i h z b hb => by
    obtain ⟨⟨old, he⟩, ⟨o, ho, hc, hd⟩⟩ := z
    rcases (show b = e ∨ b = u by simpa using hb) with y | y
    · rw [y]
      exact ⟨_, he, fun v q => nomatch q⟩
    · rw [y]
      exact ⟨o, ho, fun v q => by rw [hd] at q; cases q⟩
  keep := fun i h h' z k => by
    obtain ⟨⟨old, he⟩, ⟨o, ho, r⟩⟩ := z
    exact ⟨⟨old, k e (by simp) _ he⟩, ⟨o, k u (by simp) o ho, r⟩⟩
  item := by
    intro X hP hw hK hc i pins s σ H E I hf z hg
    subst hP hw hK
    obtain ⟨⟨old, he⟩, hu⟩ := z
    obtain ⟨xs, x, hq, hx⟩ := hg
    obtain ⟨its, rv, p, hz⟩ := I.tuple hq
    obtain ⟨v, hv, ru⟩ := rv.get hx
    have le : e < s.heap.objs.size := Heap.lt_size he
    have lu : u < s.heap.objs.size := let ⟨_, y, _⟩ := hu; Heap.lt_size y
    have hl := rv.length
    have pT : s.heap.IsTuple a its.toArray := p
    have au : a ≠ u := fun y => by
      obtain ⟨o1, g1, g2, _⟩ := pT
      obtain ⟨o2, g3, g4, _⟩ := hu
      rw [y, g3] at g1
      cases g1
      rw [g4] at g2
      injection g2 with g2
      exact absurd g2 (by decide)
    have ae : e ≠ a := fun y => by
      obtain ⟨o1, g1, g2, _⟩ := pT
      rw [← y, he] at g1
      cases g1
      injection g2 with g2
      exact absurd g2 (by decide)
    have hlt : i < its.toArray.size := by
      have := (List.getElem?_eq_some_iff.mp hv).1
      simpa using this
    refine wpAny_pyNext_enum_itemD (drawsU (by simp [I.ok.hd hc]) u a au its.toArray) he ⟨hu, pT⟩ hlt hne (by simp [hne, ae]) fun v2 h1 tk hP ho hit1 hT hsz kp => ?_
    have ev : v2 = v := by
      have z2 : its[i]? = some v2 := by simpa using hP
      rw [hv] at z2
      exact (Option.some.inj z2).symm
    subst ev
    refine ⟨_, rfl, wpAny_letOwnedTupleGo_enum (s := { s with heap := h1, toks := tk + 1 }) ho fun h2 he2 sb => ?_⟩
    have hT2 : h2.get? s.heap.objs.size = some { cls := .type "tuple", data := .seq #[.int i tk, v2] } := (sb.2 _ (Nat.ne_of_gt le)).trans hT
    have nw : ObjOk X.prog X.w (upd H s.heap.objs.size (.tup [.int (i : Nat), x])) h2 s.heap.objs.size (.tup [.int (i : Nat), x]) :=
      ⟨by show 2 ≤ sizeLine; decide, [.int i tk, v2], .cons ⟨_, rfl⟩ (.cons ru .nil), ⟨_, hT2, rfl, _, rfl⟩⟩
    have I1 : Inv X pins σ (upd H s.heap.objs.size (.tup [.int (i : Nat), x])) { s with heap := h2, toks := tk + 1 } :=
      I.turnedNew (ch := [e, u]) (fun b ob nb q => (sb.2 b (fun z => nb (by simp [z]))).trans (kp b ob (fun z => nb (by simp [z])) (fun z => nb (by simp [z])) q)) hf (Nat.le_refl _) nw
    refine ⟨.ref s.heap.objs.size, _, I1, rfl, ⟨_, x, rfl, I.hok.fresh (Nat.le_refl _), rfl, fun ys hy => by rw [I.tuple_inj hy hq]; exact hx⟩, ⟨⟨v2, ?_⟩, ?_⟩, fun b nb => ?_⟩
    · rw [show ((i + 1 : Nat) : Int) = (i : Int) + 1 by omega]
      exact he2
    · obtain ⟨⟨o, q, r⟩, _⟩ := hit1
      exact ⟨o, (sb.2 u (Ne.symm hne)).trans q, r⟩
    · have lb : b < s.heap.objs.size := by
        rcases (show b = e ∨ b = u by simpa using nb) with z | z <;> rw [z] <;> assumption
      rw [upd_ne (Nat.ne_of_lt lb)]
      exact (hf b nb).1
  done := by
    intro X hP hw hK hc i pins s σ H E I hf z hg
    subst hP hw hK
    obtain ⟨⟨old, he⟩, hu⟩ := z
    obtain ⟨xs, hq, hx⟩ := hg
    obtain ⟨its, rv, p, hz⟩ := I.tuple hq
    obtain ⟨f0, f1, f2, f3, f4, f5⟩ := hf u (by simp)
    have hl := rv.length
    have pT : s.heap.IsTuple a its.toArray := p
    exact end_enumU (I.ok.hd hc) he hu pT (by simp; omega) fun h' eb => ⟨rfl, I.turned (t' := s.toks) (fun b o nb q => eb b o nb q) f0 f1 f3 f4 f5⟩
  self := fun A i s Q E z h => let ⟨⟨_, he⟩, _⟩ := z; wpAny_pyIter_enum he h
def iEnumU (K : PySem.W.Frag) (ta : TA) : TI := fun σ H R => ta σ H fun vs H1 => ∃ a xs, vs = [.ref a] ∧ SqT K H1 a xs ∧ R (Iteu K a) H1
theorem pi_enumU {X : Cx} {e : Expr} {ta : TA} {p pos tpos : Pos} {elts : List Expr} {kk : Nat} (hg : Gl X "enumerate") (hm : X.mg "enumerate" = none) (ha : PA X [e] ta) (hs : starEach [e] X.env = [(false, eval e X.env)] := by rfl) :
    PI X (.Tuple elts kk tpos) (.Call (.Name "enumerate" p) [e] [] pos) (iEnumU X.K ta) := by
  refine ⟨fun pins s σ H R I h => ?_⟩
  refine Call_ (ld_blt I hg hm boot_enumerate (callWith_type1 (thn (ha.run pos pins s σ H _ I h) fun us s1 ⟨vs, H1, I1, r1, q1⟩ => ?_) hs rfl))
  obtain ⟨a, xs, ex, hq, q⟩ := q1
  subst ex
  obtain ⟨u, rfl, r⟩ := vals1 r1
  cases r
  obtain ⟨its, rv, p', hz⟩ := I1.tuple hq
  refine call_enumU p' fun h' he hit hk => wpAny_pyIter_enum he ?_
  have I2 : Inv X pins σ H1 { s1 with heap := h' } := I1.kept (t' := s1.toks) hk
  refine ⟨s1.heap.objs.size + 1, [s1.heap.objs.size + 1, s1.heap.objs.size], _, _, H1, rfl, I2, turn_enumU a (s1.heap.objs.size + 1) s1.heap.objs.size (Nat.succ_ne_self _), ⟨⟨.none, he⟩, hit⟩, fun b hb => ?_, q⟩
  have le : s1.heap.objs.size ≤ b := by
    rcases (show b = s1.heap.objs.size + 1 ∨ b = s1.heap.objs.size by simpa using hb) with y | y <;> rw [y]
    · exact Nat.le_succ _
    · exact Nat.le_refl _
  exact I1.fpOk le (I1.hok.fresh le)
theorem walk_enumU {K : PySem.W.Frag} {a : Addr} {xs : List V} : Walk (Iteu K a) xs.length (fun H => SqT K H a xs) (YPair (fun i => some (.int (i : Nat))) (fun i => xs[i]?)) := by
  refine ⟨fun i _ hi q => ⟨xs, xs[i], q, by simp [hi]⟩, fun _ q => ⟨xs, q, Nat.le_refl _⟩, fun i H v H' _ q y => ?_⟩
  obtain ⟨T, x, h1, h2, h3, h4⟩ := y
  exact ⟨T, .int (i : Nat), x, h1, h2, h3, rfl, h4 xs q⟩
theorem g_iEnumU {K : PySem.W.Frag} {σ : L2.St} {H : Hp} {tx : TA} {R : It → Hp → Prop} (q : tx σ H fun vs H1 => ∃ a xs, vs = [.ref a] ∧ SqT K H1 a xs ∧ R (Iteu K a) H1) : iEnumU K tx σ H R := q
theorem g_iEU {K : PySem.W.Frag} {H : Hp} {a : Addr} {xs : List V} {P : Addr → Prop} (h : SqT K H a xs) (q : P a) : ∃ b xs, [V.ref a] = [V.ref b] ∧ SqT K H b xs ∧ P b := ⟨a, xs, rfl, h, q⟩
/-! ### bool(text) -/
def rBoolT : List V → Hp → VK → Prop := fun xs H Q => ∃ z : Str, xs = [.str z] ∧ z.length ≤ 100000 ∧ Q (.bl (decide (z.length ≠ 0))) H
theorem call_boolT {X : Cx} : CallR X (.type "bool") rBoolT := by
  intro pins s σ H xs us Q I r h
  obtain ⟨z, rfl, hz, q⟩ := h
  obtain ⟨u, rfl, t, rfl⟩ := vals1 r
  refine call_bool_str (by omega) ⟨.bl (decide (z.length ≠ 0)), H, I.tok _, ?_, q⟩
  show _ = _
  congr 1
  by_cases e : z.length = 0
  · rw [e]
    rfl
  · have e2 : ((z.length : Int) != 0) = true := bne_iff_ne.mpr (by omega)
    rw [e2, decide_eq_true e]
theorem g_boolT {H : Hp} {Q : VK} {z : Str} (h : z.length ≤ 100000) (q : Q (.bl (decide (z.length ≠ 0))) H) : rBoolT [V.str z] H Q := ⟨z, rfl, h, q⟩
end LS

/-! Line strikes, layer F: bits of numbers; what letters a number has. -/
namespace LS
open PySem PySem.Spec PyProof.Rows L2
theorem pl {f : Str} {y : V} : ∀ {fs : List (Str × V)} {n : Nat}, fs.length < n → (putF f y fs).length < n + 1
  | [], n, h => by
    show 1 < n + 1
    have : 0 < n := h
    omega
  | (g, x) :: r, n, h => by
    rw [List.length_cons] at h
    unfold putF
    split
    · rw [List.length_cons]; omega
    · have := pl (f := f) (y := y) (fs := r) (n := n - 1) (by omega)
      rw [List.length_cons]
      omega
theorem and_n (a b : Nat) : Builtin.bitAnd (a : Int) (b : Int) = ((a &&& b : Nat) : Int) := by
  rw [bitAnd_pp (Int.natCast_nonneg _) (Int.natCast_nonneg _), Int.toNat_natCast, Int.toNat_natCast]
theorem or_n (a b : Nat) : Builtin.bitOr (a : Int) (b : Int) = ((a ||| b : Nat) : Int) := by
  rw [bitOr_and, and_n]
  have h := nat_or_add_and a b
  omega
theorem and_le (a b : Nat) : a &&& b ≤ a := Nat.and_le_left
theorem andnot_n (a b : Nat) : Builtin.bitAnd (a : Int) (Builtin.bitNot (b : Int)) = ((a - (a &&& b) : Nat) : Int) := by
  rw [bitAnd_not, and_n]
  have h := and_le a b
  omega
theorem shr_n (n i : Nat) : (n : Int) / 2 ^ ((i : Nat) : Int).toNat = ((n / 2 ^ i : Nat) : Int) := by
  rw [Int.toNat_natCast]
  norm_cast
theorem bit_n (n i : Nat) : Builtin.bitAnd ((n : Int) / 2 ^ ((i : Nat) : Int).toNat) 1 = ((n / 2 ^ i % 2 : Nat) : Int) := by
  rw [shr_n, show (1 : Int) = ((1 : Nat) : Int) from rfl, and_n, Nat.and_one_is_mod]
theorem dvi (a b : Int) : decide (V.int a = V.int b) = decide (a = b) := decide_eq_decide.mpr ⟨fun z => by injection z, fun z => by rw [z]⟩
theorem dvn (a b : Nat) : decide (V.int (a : Int) = V.int (b : Int)) = decide (a = b) := by
  rw [dvi]
  exact decide_eq_decide.mpr ⟨fun z => by omega, fun z => by rw [z]⟩
theorem dvs (a b : List Nat) : decide (V.str (st a) = V.str (st b)) = decide (a = b) := decide_eq_decide.mpr ⟨fun z => st_inj.mp (by injection z), fun z => by rw [z]⟩
/-- within: no bit besides -/
theorem within_and {a b : Nat} : a - (a &&& b) = 0 ↔ a &&& b = a := by
  have h := and_le a b
  omega
theorem within_or {a b c : Nat} : (a ||| b) &&& c = (a ||| b) ↔ a &&& c = a ∧ b &&& c = b := by
  constructor
  · intro h
    constructor
    · apply Nat.eq_of_testBit_eq
      intro i
      have z := congrArg (fun n => Nat.testBit n i) h
      simp only [Nat.testBit_and, Nat.testBit_or] at z ⊢
      cases ha : a.testBit i <;> cases hb : b.testBit i <;> cases hc : c.testBit i <;> simp_all
    · apply Nat.eq_of_testBit_eq
      intro i
      have z := congrArg (fun n => Nat.testBit n i) h
      simp only [Nat.testBit_and, Nat.testBit_or] at z ⊢
      cases ha : a.testBit i <;> cases hb : b.testBit i <;> cases hc : c.testBit i <;> simp_all
  · rintro ⟨h1, h2⟩
    apply Nat.eq_of_testBit_eq
    intro i
    have z1 := congrArg (fun n => Nat.testBit n i) h1
    have z2 := congrArg (fun n => Nat.testBit n i) h2
    simp only [Nat.testBit_and, Nat.testBit_or] at z1 z2 ⊢
    cases ha : a.testBit i <;> cases hb : b.testBit i <;> cases hc : c.testBit i <;> simp_all
theorem within_tr {a b c : Nat} (h1 : a &&& b = a) (h2 : b &&& c = b) : a &&& c = a := by
  apply Nat.eq_of_testBit_eq
  intro i
  have z1 := congrArg (fun n => Nat.testBit n i) h1
  have z2 := congrArg (fun n => Nat.testBit n i) h2
  simp only [Nat.testBit_and] at z1 z2 ⊢
  cases ha : a.testBit i <;> cases hb : b.testBit i <;> cases hc : c.testBit i <;> simp_all
theorem within_left (a b : Nat) : a &&& (a ||| b) = a := by
  apply Nat.eq_of_testBit_eq
  intro i
  simp only [Nat.testBit_and, Nat.testBit_or]
  cases ha : a.testBit i <;> cases hb : b.testBit i <;> simp
theorem within_lt {a b k : Nat} (h : a &&& b = a) (hb : b < 2 ^ k) : a < 2 ^ k := by
  rw [← h]
  exact Nat.lt_of_le_of_lt Nat.and_le_right hb
/-- a bit of it -/
theorem and_pow (n i : Nat) : (n &&& 2 ^ i ≠ 0) ↔ n / 2 ^ i % 2 = 1 := by
  have e : n.testBit i = decide (n / 2 ^ i % 2 = 1) := by rw [Nat.testBit_eq_decide_div_mod_eq]
  constructor
  · intro h
    by_cases z : n / 2 ^ i % 2 = 1
    · exact z
    · rw [decide_eq_false z] at e
      refine absurd (Nat.eq_of_testBit_eq fun j => ?_) h
      rw [Nat.testBit_and, Nat.testBit_two_pow, Nat.zero_testBit]
      by_cases ij : i = j
      · rw [← ij, e]
        rfl
      · rw [decide_eq_false ij, Bool.and_false]
  · intro z h
    rw [decide_eq_true z] at e
    have y := congrArg (fun m => Nat.testBit m i) h
    simp only [Nat.testBit_and, Nat.testBit_two_pow, Nat.zero_testBit, e] at y
    simp at y
theorem sub_bit : ∀ {ls : List Nat} {i c n : Nat}, ls[i]? = some c → ls.Nodup → (c ∈ sub ls n ↔ n / 2 ^ i % 2 = 1)
  | [], _, _, _, h, _ => by simp at h
  | x :: r, 0, c, n, h, nd => by
    obtain ⟨h1, _⟩ := List.nodup_cons.mp nd
    have ec : x = c := by simpa using h
    subst ec
    unfold sub
    rw [Nat.pow_zero, Nat.div_one]
    split
    · rename_i z
      simp [z]
    · rename_i z
      exact ⟨fun y => absurd (sub_mem y) h1, fun y => absurd y z⟩
  | x :: r, i + 1, c, n, h, nd => by
    obtain ⟨h1, h2⟩ := List.nodup_cons.mp nd
    have hr : r[i]? = some c := by simpa using h
    have hc : c ∈ r := List.mem_of_getElem? hr
    have hx : c ≠ x := fun e => h1 (e ▸ hc)
    have ih := sub_bit (n := n / 2) hr h2
    have e2 : n / 2 ^ (i + 1) = n / 2 / 2 ^ i := by rw [Nat.pow_succ, Nat.mul_comm, Nat.div_div_eq_div_mul]
    unfold sub
    rw [e2, ← ih]
    split
    · exact ⟨fun y => (List.mem_cons.mp y).resolve_left hx, fun y => List.mem_cons_of_mem _ y⟩
    · exact Iff.rfl
theorem sub_nil : ∀ {ls : List Nat} {n : Nat}, n < 2 ^ ls.length → (sub ls n = [] ↔ n = 0)
  | [], n, h => by
    have : n = 0 := by simpa using h
    simp [sub, this]
  | x :: r, n, h => by
    rw [List.length_cons, Nat.pow_succ] at h
    have ih := sub_nil (ls := r) (n := n / 2) (by omega)
    unfold sub
    split
    · constructor
      · intro z; cases z
      · intro z; omega
    · rw [ih]; omega
/-! ### text.index(sign) -/
def rIdx : V → List V → Hp → VK → Prop := fun x xs H Q => ∃ (ls : List Nat) (c : Nat), x = .str (st ls) ∧ xs = [.str (sgn c)] ∧ c ∈ ls ∧ Q (.int ((ls.idxOf c : Nat) : Int)) H
theorem mt_idx {X : Cx} : MtR X "str.index" rIdx := by
  intro pins s σ H x xs v us Q I rx rs h
  obtain ⟨ls, c, e1, e2, hc, q⟩ := h
  exact mt_sindex pins s σ H x xs v us Q I rx rs ⟨_, _, _, _, e1, e2, occ_one hc, q⟩
def tIdx (to te : TE) : TE := tM1 rIdx to te
theorem pe_index {X : Cx} {o e : Expr} {to te : TE} {apos pos : Pos} (ho : PE X o to) (he : PE X e te) (hs : starEach [e] X.env = [(false, eval e X.env)] := by rfl) (hb : attributeBase o "index" X.env (eval o X.env) = eval o X.env := by rfl) (hl : (apos.endLine == pos.line) = true := by rfl) :
    PE X (.Call (.Attribute o "index" apos) [e] [] pos) (tIdx to te) := pe_m1 F.slot_str_index F.type_str_index mt_idx ho he hs hb hl
theorem g_index {to te : TE} {σ : L2.St} {H : Hp} {Q : VK} (q : to σ H fun x H1 => (∃ a, x = .str a) ∧ te σ H1 fun y H2 => rIdx x [y] H2 Q) : tIdx to te σ H Q := q
theorem g_idx {ls : List Nat} {c : Nat} {H : Hp} {Q : VK} (h : c ∈ ls) (q : Q (.int ((ls.idxOf c : Nat) : Int)) H) : rIdx (.str (st ls)) [.str (sgn c)] H Q := ⟨ls, c, rfl, rfl, h, q⟩
theorem shl_n (i : Nat) : (1 : Int) * 2 ^ ((i : Nat) : Int).toNat = ((2 ^ i : Nat) : Int) := by
  rw [Int.toNat_natCast, Int.one_mul]
  norm_cast
theorem num_sum (ls : List Nat) : ∀ ts : List Nat, (ts.map fun c => ((2 ^ ls.idxOf c : Nat) : Int)).sum = (num ls ts : Int)
  | [] => rfl
  | c :: r => by
    rw [List.map_cons, List.sum_cons, num_sum ls r, show num ls (c :: r) = 2 ^ ls.idxOf c + num ls r from rfl]
    omega
/-! ### the same rules where the part of the heap is named (within comprehensions) -/
section
variable {X : Cx} {K : PySem.W.Frag} {e : Expr} {f : Str} {pos : Pos} {ta : TE}
theorem pe_fldK (hK : X.K = K) (he : PE X e ta) (hb : attributeBase e f X.env (eval e X.env) = eval e X.env) : PE X (.Attribute e f pos) (tFld K ta f) := by
  subst hK
  exact pe_fld he hb
theorem ix_listK (hK : X.K = K) : IxR X (rIxL K) := by
  subst hK
  exact ix_list
theorem ix_tupK (hK : X.K = K) : IxR X (rIxT K) := by
  subst hK
  exact ix_tup
theorem call_lenGK (hK : X.K = K) : CallR X (.builtin "len") (rLenS K) := by
  subst hK
  exact call_lenG
theorem call_isiK2 (hK : X.K = K) : CallR X (.builtin "isinstance") (rIsi K) := by
  subst hK
  exact call_isi
end
/-! ### one step: operators of own classes -/
section
variable {K : PySem.W.Frag} {H : Hp} {Q : VK} {a b C D dx dy : Addr} {fs gs : List (Str × V)} {sp : Sp} {x : V}
theorem g_eqO (h1 : H a = some (.ins C dx fs)) (h2 : H b = some (.ins D dy gs)) (n : PySem.W.notFirst K C (.ref D) = true) (q : sp [.ref a, .ref b] H Q E0) : rEqO K C sp (.ref a) (.ref b) H Q := ⟨a, dx, fs, b, D, dy, gs, rfl, rfl, h1, h2, n, q⟩
theorem g_binO (h1 : H a = some (.ins C dx fs)) (h2 : H b = some (.ins C dy gs)) (q : sp [.ref a, .ref b] H Q E0) : rBin C sp (.ref a) (.ref b) H Q := ⟨a, dx, fs, b, dy, gs, rfl, rfl, h1, h2, q⟩
theorem g_inO {neg : Bool} (h1 : H a = some (.ins C dx fs)) (q : sp [.ref a, x] H (fun v H' => ∃ b, v = .bl b ∧ Q (.bl (b != neg)) H') E0) : rInO C sp neg x (.ref a) H Q := ⟨a, dx, fs, rfl, h1, q⟩
theorem g_lenO (h1 : H a = some (.ins C dx fs)) (q : sp [.ref a] H (fun v H' => ∃ i : Int, v = .int i ∧ 0 ≤ i ∧ i < 1000000 ∧ Q (.int i) H') E0) : rLenO C sp [.ref a] H Q := ⟨a, dx, fs, rfl, h1, q⟩
theorem g_truO {R : Bool → Hp → Prop} (h1 : H a = some (.ins C dx fs)) (q : sp [.ref a] H (fun v H' => ∃ b, v = .bl b ∧ R b H') E0) : rTruO C sp (.ref a) H R := ⟨a, dx, fs, rfl, h1, q⟩
theorem g_ixO (h1 : H a = some (.ins C dx fs)) (q : sp [.ref a, x] H Q E0) : rIxO C sp (.ref a) x H Q := ⟨a, dx, fs, rfl, h1, q⟩
end
theorem ins_no {H : Hp} {a C C2 dx dx2 : Addr} {fs fs2 : List (Str × V)} (h : H a = some (.ins C dx fs)) (h2 : H a = some (.ins C2 dx2 fs2)) : fs = fs2 := by
  rw [h] at h2
  injection h2 with z
  injection z with _ _ z
end LS

/-! Line strikes, layer R: rules and lines in the heap; comprehensions of objects and of drawn numbers. -/
namespace LS
open PySem PySem.Spec PyProof.Rows L2

/-! ### makers with keywords -/
structure MkrK (P : Program) (w : World) (K : PySem.W.Frag) (mg : Str → Option Value) (base : Heap) (x : Str) (C : Addr) (k n : Nat) (ks : List Str) (sp : Sp) : Prop where
  ex : ∃ (f : Addr) (fd : FuncData) (ps : List Str) (g : List Value → List Value → List Value), Mk K C f ∧ FnOk P w K mg base (L2.CX P w) k f fd ps sp ∧ mg x = some (.ref C) ∧ KBn K fd ps (n + 1) ks g (fun vs zs => vs ++ zs)
section
variable {X : Cx} {x : Str} {C : Addr} {k j n : Nat} {ks : List Str} {sp : Sp} {e : Expr} {es : List Expr} {kws : List Keyword} {t tk : TA} {p pos : Pos}
theorem pe_nk (c : MkrK X.prog X.w X.K X.mg X.base x C k n ks sp) (hr : Room j X.A) (hk : k + 1 ≤ j) (hg : Gl X x) (ha : PA X (e :: es) t) (hkw : PK X kws tk)
    (hall : (backToKw pos (keywordEach kws X.env)).all (·.1.isSome) = true := by rfl) (hks : (backToKw pos (keywordEach kws X.env)).filterMap (·.1) = ks := by rfl) (hdb : (x == ("__debug__" : Str)) = false := by decide)
    (he : starEach (e :: es) X.env = (false, eval e X.env) :: starEach es X.env := by rfl) (hpl : ((backTo pos (starEach (e :: es) X.env)).any (·.1) || (backToKw pos (keywordEach kws X.env)).any (·.1.isNone)) = false := by rfl) :
    PE X (.Call (.Name x p) (e :: es) kws pos) (tMakeK C n ks.length sp (fun vs zs => vs ++ zs) E0 t tk) := by
  obtain ⟨f, fd, ps, g, M, F, hm, b⟩ := c.ex
  exact pe_makeK M F (hr.mono hk) hg hm b passL ha hkw hall hks hdb he hpl
def kMkK (C : Addr) (sp : Sp) (vs zs : List V) (H : Hp) (Q : VK) : Prop := ∀ x dx, H x = none → H dx = none → dx ≠ x → sp ((.ref x :: vs) ++ zs) (upd (upd H dx (.own x)) x (.ins C dx [])) (fun v H2 => v = .non ∧ Q (.ref x) H2) E0
theorem g_makeK {σ : L2.St} {H : Hp} {Q : VK} {m : Nat} (q : t σ H fun vs H1 => tk σ H1 fun zs H2 => (vs.length = n ∧ zs.length = m) ∧ kMkK C sp vs zs H2 Q) : tMakeK C n m sp (fun vs zs => vs ++ zs) E0 t tk σ H Q := by
  have z : t = t := rfl
  unfold tMakeK
  have e : (fun vs H1 => tk σ H1 fun zs H2 => (vs.length = n ∧ zs.length = m) ∧ kMkK C sp vs zs H2 Q) = (fun vs H1 => tk σ H1 fun zs H2 => vs.length = n ∧ zs.length = m ∧ ∀ x dx, H2 x = none → H2 dx = none → dx ≠ x → sp ((.ref x :: vs) ++ zs) (upd (upd H2 dx (.own x)) x (.ins C dx [])) (fun v H3 => v = .non ∧ Q (.ref x) H3) E0) := by
    funext vs H1
    congr 1
    funext zs H2
    exact propext and_assoc
  rw [← e]
  exact q
theorem g_lens {vs zs : List V} {m : Nat} {P : Prop} (h1 : vs.length = n) (h2 : zs.length = m) (q : P) : (vs.length = n ∧ zs.length = m) ∧ P := ⟨⟨h1, h2⟩, q⟩
end
theorem g_b1 {A B : Prop} (q : B) : if (true != true) = true then A else B := iteF q
theorem g_b2 {A B : Prop} (q : A) : if (true != false) = true then A else B := iteT q
theorem g_b3 {A B : Prop} (q : A) : if (false != true) = true then A else B := iteT q
theorem g_b4 {A B : Prop} (q : B) : if (false != false) = true then A else B := iteF q
theorem ifx_split {p A B : Prop} [Decidable p] (h1 : p → A) (h2 : ¬ p → B) : if (decide p != false) = true then A else B := by
  rw [show (decide p != false) = decide p by cases decide p <;> rfl]
  exact if_split h1 h2
theorem ifxn_split {p A B : Prop} [Decidable p] (h1 : ¬ p → A) (h2 : p → B) : if (decide p != true) = true then A else B := by
  rw [show (decide p != true) = !decide p by cases decide p <;> rfl]
  exact ifn_split h1 h2
/-! ### truth by an own def -/
def tNotR (r : V → Hp → (Bool → Hp → Prop) → Prop) (ta : TE) : TE := fun σ H Q => ta σ H fun x H1 => r x H1 fun b H2 => Q (.bl (!b)) H2
def tTruR (r : V → Hp → (Bool → Hp → Prop) → Prop) (ta : TE) : TT := fun σ H Q => ta σ H fun x H1 => r x H1 Q
section
variable {X : Cx} {a : Expr} {ta : TE} {r : V → Hp → (Bool → Hp → Prop) → Prop} {pos : Pos}
theorem pe_notR (ha : PE X a ta) (hr : TruR X r) : PE X (.UnaryOp .Not a pos) (tNotR r ta) := by
  refine ⟨fun pins s σ H Q I h => ?_⟩
  refine UnaryOp_ (thn (ha.run pins s σ H _ I h) fun v s1 ⟨x, H1, I1, r1, q1⟩ => ?_)
  exact not_of (thn (hr pins s1 σ H1 x v _ I1 r1 q1) fun c s2 ⟨H2, I2, q2⟩ => ⟨.bl (!c), H2, I2, rfl, q2⟩)
theorem pt_truR (ha : PE X a ta) (hr : TruR X r) (he : ∀ whole, isTrue a X.env whole = (do let v ← whole; standAt a.pos; holding [v] (truthy v))) : PT X a (tTruR r ta) := pt_truthR ha hr he
theorem g_notR {σ : L2.St} {H : Hp} {Q : VK} (q : ta σ H fun x H1 => r x H1 fun b H2 => Q (.bl (!b)) H2) : tNotR r ta σ H Q := q
theorem g_truR {σ : L2.St} {H : Hp} {Q : Bool → Hp → Prop} (q : ta σ H fun x H1 => r x H1 Q) : tTruR r ta σ H Q := q
end
/-! ### tuple(list), none -/
section
variable {K : PySem.W.Frag} {σ : L2.St} {H : Hp} {Q : VK}
def rTupL (K : PySem.W.Frag) : List V → Hp → VK → Prop := fun xs H Q => ∃ p ys, xs = [.ref p] ∧ SqL K H p ys ∧ ∀ l, H l = none → Q (.ref l) (upd H l (.tup ys))
theorem call_tupL {X : Cx} : CallR X (.type "tuple") (rTupL X.K) := by
  intro pins s σ H xs us Q I r h
  obtain ⟨p, ys, e, h1, q⟩ := h
  exact call_tuple_of pins s σ H xs us Q I r ⟨p, ys, e, .inl ⟨h1, q⟩⟩
theorem g_tupL {p : Addr} {ys : List V} (h : H p = some (.lst ys)) (q : ∀ l H', H l = none → Ex H H' → H' l = some (.tup ys) → H' = upd H l (.tup ys) → Q (.ref l) H') : rTupL K [.ref p] H Q := ⟨p, ys, rfl, sq_l h, fun l z => q l _ z (Ex.nw z) upd_same rfl⟩
def rIsN : R2 := fun x y H Q => y = .non ∧ Q (.bl (decide (x = .non))) H
theorem op_isNG {X : Cx} : OpR X (compareOp .Is) rIsN := op_isN
theorem g_isN {x : V} (q : Q (.bl (decide (x = .non))) H) : rIsN x .non H Q := ⟨rfl, q⟩
theorem g_isNr {a : Addr} (q : Q (.bl false) H) : rIsN (.ref a) .non H Q := ⟨rfl, q⟩
theorem g_isNn (q : Q (.bl true) H) : rIsN .non .non H Q := ⟨rfl, q⟩
theorem isN_ref {a : Addr} : decide (V.ref a = V.non) = false := rfl
theorem isN_non : decide (V.non = V.non) = true := rfl
end
/-! ### cells, rules, lines -/
abbrev CR (K : PySem.W.Frag) : Addr := He.ga K "Rule"
abbrev CL (K : PySem.W.Frag) : Addr := He.ga K "Line"
def CellOf (K : PySem.W.Frag) (H : Hp) (ls : List Nat) (b : Addr) (n : Nat) : Prop := ∃ va, CellAt K H b va ls n
def Cells (K : PySem.W.Frag) (H : Hp) (ls : List Nat) (as : List Addr) (ns : List Nat) : Prop := as.length = ns.length ∧ ∀ (i : Nat) (a : Addr) (n : Nat), as[i]? = some a → ns[i]? = some n → CellOf K H ls a n
/-- what tells a cell of number n: a cell, or the text of its letters -/
def Tells (K : PySem.W.Frag) (H : Hp) (ls : List Nat) (x : V) (n : Nat) : Prop := (∃ b, x = .ref b ∧ CellOf K H ls b n) ∨ (x = .str (st (sub ls n)) ∧ n < 2 ^ ls.length)
def rF (va tp : Addr) (k : Int) (v : Str) (l r : Bool) (tn : Addr) (b : Int) : List (Str × V) := [("alphabet", .ref va), ("pattern", .ref tp), ("at", .int k), ("value", .str v), ("left", .bl l), ("right", .bl r), ("numbers", .ref tn), ("bit", .int b)]
def lF (va rp : Addr) : List (Str × V) := [("alphabet", .ref va), ("row", .ref rp)]
/-- a rule: its cells' numbers, its place, the index of its value, its ends -/
structure RD where
  ns : List Nat
  k : Nat
  j : Nat
  l : Bool
  r : Bool
def RuleAt (K : PySem.W.Frag) (H : Hp) (a : Addr) (ls : List Nat) (d : RD) : Prop := ∃ dx va tp tn as c, H a = some (.ins (CR K) dx (rF va tp (d.k : Int) (sgn c) d.l d.r tn ((2 ^ d.j : Nat) : Int))) ∧ ValsAt K H va ls ∧ H tp = some (.tup (as.map V.ref)) ∧ Cells K H ls as d.ns ∧
  H tn = some (.tup (d.ns.map fun (n : Nat) => V.int (n : Int))) ∧ ls[d.j]? = some c
def LineAt (K : PySem.W.Frag) (H : Hp) (a : Addr) (ls : List Nat) (ns : List Nat) : Prop := ∃ dx va rp as, H a = some (.ins (CL K) dx (lF va rp)) ∧ ValsAt K H va ls ∧ H rp = some (.lst (as.map V.ref)) ∧ Cells K H ls as ns
section
variable {K : PySem.W.Frag} {H H' : Hp} {a va pn c D : Addr} {ls ns : List Nat} {as : List Addr} {n m : Nat} {x : V} {d : RD}
theorem CellOf.kp (e : Kept H H') (h : CellOf K H ls a n) : CellOf K H' ls a n := let ⟨va, z⟩ := h; ⟨va, z.kp e⟩
theorem Cells.kp (e : Kept H H') (h : Cells K H ls as ns) : Cells K H' ls as ns := ⟨h.1, fun i a n z1 z2 => (h.2 i a n z1 z2).kp e⟩
theorem Tells.kp (e : Kept H H') (h : Tells K H ls x n) : Tells K H' ls x n := by
  rcases h with ⟨b, z1, z2⟩ | z
  · exact .inl ⟨b, z1, z2.kp e⟩
  · exact .inr z
theorem RuleAt.kp (e : Kept H H') (h : RuleAt K H a ls d) : RuleAt K H' a ls d :=
  let ⟨dx, va, tp, tn, as, c, h1, h2, h3, h4, h5, h6⟩ := h; ⟨dx, va, tp, tn, as, c, e _ _ (fun _ q => nomatch q) h1, h2.kp e, e _ _ (fun _ q => nomatch q) h3, h4.kp e, e _ _ (fun _ q => nomatch q) h5, h6⟩
theorem Ep.kept (p : PenAt H pn c m) (e : Ep pn H H') : Kept H H' := fun a o n z => e a o (p.ne z fun _ _ _ y => n _ y) z
theorem LineAt.ex (e : Ex H H') (h : LineAt K H a ls ns) : LineAt K H' a ls ns :=
  let ⟨dx, va, rp, as, h1, h2, h3, h4⟩ := h; ⟨dx, va, rp, as, e _ _ h1, h2.ex e, e _ _ h3, h4.kp e.kept⟩
theorem LineAt.ep (p : PenAt H pn c m) (e : Ep pn H H') (h : LineAt K H a ls ns) : LineAt K H' a ls ns :=
  let ⟨dx, va, rp, as, h1, h2, h3, h4⟩ := h; ⟨dx, va, rp, as, e _ _ (p.ins h1) h1, h2.kp (e.kept p), e _ _ (p.refs h3) h3, h4.kp (e.kept p)⟩
theorem kept_lst {xs ys : List V} (h : H D = some (.lst xs)) : Kept H (upd H D (.lst ys)) := fun a o n z => by
  by_cases e : a = D
  · rw [e, h] at z
    exact absurd (Option.some.inj z).symm (n _)
  · exact (upd_ne e).trans z
end
section
variable {K : PySem.W.Frag} {H H' : Hp} {a va x C dx : Addr} {ls ns : List Nat} {as : List Addr} {n : Nat} {fs : List (Str × V)}
theorem ne_cls {C2 dx2 : Addr} {fs2 : List (Str × V)} (ne : C ≠ C2) (hx : H x = some (.ins C dx fs)) (h : H a = some (.ins C2 dx2 fs2)) : a ≠ x := fun e => by
  rw [e, hx] at h
  injection h with z
  injection z with z _ _
  exact ne z
theorem ne_tup {xs : List V} (hx : H x = some (.ins C dx fs)) (h : H a = some (.tup xs)) : a ≠ x := fun e => by
  rw [e, hx] at h
  cases h
theorem ne_lst {xs : List V} (hx : H x = some (.ins C dx fs)) (h : H a = some (.lst xs)) : a ≠ x := fun e => by
  rw [e, hx] at h
  cases h
theorem ValsAt.em (n2 : C ≠ CV K) (hx : H x = some (.ins C dx fs)) (e : Ep x H H') (h : ValsAt K H a ls) : ValsAt K H' a ls := let ⟨d, z⟩ := h; ⟨d, e _ _ (ne_cls n2 hx z) z⟩
theorem CellAt.em (n1 : C ≠ CC K) (n2 : C ≠ CV K) (hx : H x = some (.ins C dx fs)) (e : Ep x H H') (h : CellAt K H a va ls n) : CellAt K H' a va ls n := let ⟨⟨d, z⟩, v, y⟩ := h; ⟨⟨d, e _ _ (ne_cls n1 hx z) z⟩, v.em n2 hx e, y⟩
theorem CellOf.em (n1 : C ≠ CC K) (n2 : C ≠ CV K) (hx : H x = some (.ins C dx fs)) (e : Ep x H H') (h : CellOf K H ls a n) : CellOf K H' ls a n := let ⟨v, z⟩ := h; ⟨v, z.em n1 n2 hx e⟩
theorem Cells.em (n1 : C ≠ CC K) (n2 : C ≠ CV K) (hx : H x = some (.ins C dx fs)) (e : Ep x H H') (h : Cells K H ls as ns) : Cells K H' ls as ns := ⟨h.1, fun i a n z1 z2 => (h.2 i a n z1 z2).em n1 n2 hx e⟩
theorem Tells.em {v : V} (n1 : C ≠ CC K) (n2 : C ≠ CV K) (hx : H x = some (.ins C dx fs)) (e : Ep x H H') (h : Tells K H ls v n) : Tells K H' ls v n := by
  rcases h with ⟨b, z1, z2⟩ | z
  · exact .inl ⟨b, z1, z2.em n1 n2 hx e⟩
  · exact .inr z
theorem Ep.put {o : HO} (e : Ep x H H') : Ep x H (upd H' x o) := fun b u nb z => (upd_ne nb).trans (e b u nb z)
end
/-! ### comprehensions -/
section
variable {K : PySem.W.Frag} {σ : L2.St} {H : Hp} {te : TE} {Q : VK}
/-- of objects that stay -/
theorem g_lcO {J : It} {n : Nat} {G : Hp → Prop} {Y : Nat → Hp → V → Hp → Prop} {g : TG} {tt : TT} {vs : List Nat} (w : Walk J n G Y) (hn : n ≤ 4001) (P : Nat → Addr → Hp → Prop) (st : ∀ i a H1 H2, Kept H1 H2 → P i a H1 → P i a H2) (hG : ∀ H', Ex H H' → G H')
    (turn : ∀ i x H1 H2, i < n → Ex H H1 → Y i H1 x H2 → ∀ (Yes : V → Hp → Prop) (No : Hp → Prop), (∀ a H4, Ex H1 H4 → P i a H4 → Yes (.ref a) H4) →
      g x (wipe σ vs) H2 fun σ2 H3 => wipe σ2 vs = wipe σ vs ∧ tt σ2 H3 fun b H4 => if b = true then te σ2 H4 fun y H5 => Yes y H5 else No H4)
    (q : ∀ (D : Addr) (as : List Addr) H', H D = none → Ex H H' → H' D = some (.lst (as.map V.ref)) → as.length = n → (∀ (i : Nat) a, as[i]? = some a → P i a H') → Q (.ref D) H') : kLc J g tt te vs σ H Q := by
  refine g_lcI w hn (fun D i acc H' => Ex H H' ∧ ∃ as : List Addr, acc = as.map V.ref ∧ as.length = i ∧ ∀ (k : Nat) a, as[k]? = some a → P k a H') (fun D H' hD e => ⟨e ▸ Ex.nw hD, [], rfl, rfl, fun k a z => by cases z⟩) (fun D i acc H' hD hl z => hG H' z.1)
    (fun D i acc x H1 H2 hi hD hl ha z y Yes No hy hno => ?_) fun D acc H' hD _ hl z => ?_
  · obtain ⟨ex, as, rfl, ea, hp⟩ := z
    refine turn i x H1 H2 hi ex y Yes No fun a H4 e4 pa => ?_
    refine hy (.ref a) H4 (e4 _ _ hl) ⟨?_, as ++ [a], by simp, by simp [ea], fun k b hk => ?_⟩
    · exact (ex.tr e4).up hD
    · refine st k b H4 _ (kept_lst (e4 _ _ hl)) ?_
      by_cases e : k < as.length
      · rw [List.getElem?_append_left e] at hk
        exact st k b H1 H4 e4.kept (hp k b hk)
      · rw [List.getElem?_append_right (by omega)] at hk
        have e2 : k - as.length = 0 := by
          have := (List.getElem?_eq_some_iff.mp hk).1
          simpa using this
        rw [e2] at hk
        have e3 : a = b := by simpa using hk
        have e5 : k = i := by omega
        rw [← e3, e5]
        exact pa
  · obtain ⟨ex, as, rfl, ea, hp⟩ := z
    exact q D as H' hD ex hl ea hp
/-- of values, the pen drawn from -/
theorem g_lcP {J : It} {n : Nat} {G : Hp → Prop} {Y : Nat → Hp → V → Hp → Prop} {g : TG} {tt : TT} {vs : List Nat} (w : Walk J n G Y) (hn : n ≤ 4001) {pn c : Addr} {m k : Nat} (pen : PenAt H pn c m) (P : Nat → V → Prop) (hG : ∀ H', Ep pn H H' → G H')
    (turn : ∀ i x H1 H2, i < n → Ep pn H H1 → PenAt H1 pn c (m + i * k) → Y i H1 x H2 → ∀ (Yes : V → Hp → Prop) (No : Hp → Prop), (∀ v H4, P i v → Ep pn H1 H4 → PenAt H4 pn c (m + (i + 1) * k) → Yes v H4) →
      g x (wipe σ vs) H2 fun σ2 H3 => wipe σ2 vs = wipe σ vs ∧ tt σ2 H3 fun b H4 => if b = true then te σ2 H4 fun y H5 => Yes y H5 else No H4)
    (q : ∀ (D : Addr) (acc : List V) H', H D = none → Ep pn H H' → H' D = some (.lst acc) → acc.length = n → (∀ (i : Nat) v, acc[i]? = some v → P i v) → PenAt H' pn c (m + n * k) → Q (.ref D) H') : kLc J g tt te vs σ H Q := by
  refine g_lcI w hn (fun D i acc H' => Ep pn H H' ∧ acc.length = i ∧ PenAt H' pn c (m + i * k) ∧ ∀ (j : Nat) v, acc[j]? = some v → P j v) (fun D H' hD e => ⟨e ▸ Ep.nw hD, rfl, ?_, fun j v z => by cases z⟩) (fun D i acc H' hD hl z => hG H' z.1)
    (fun D i acc x H1 H2 hi hD hl ha z y Yes No hy hno => ?_) fun D acc H' hD _ hl z => ?_
  · rw [e, Nat.zero_mul]
    exact pen.up (pen.fr hD)
  · obtain ⟨ep, rfl, pa, hp⟩ := z
    refine turn _ x H1 H2 hi ep pa y Yes No fun v H4 pv e4 p4 => ?_
    have nD := pen.fr hD
    have hl4 := e4 D _ nD.1 hl
    refine hy v H4 hl4 ⟨(ep.tr e4).up hD, by simp, p4.up nD, fun j u hj => ?_⟩
    by_cases e : j < acc.length
    · rw [List.getElem?_append_left e] at hj
      exact hp j u hj
    · rw [List.getElem?_append_right (by omega)] at hj
      have e2 : j - acc.length = 0 := by
        have := (List.getElem?_eq_some_iff.mp hj).1
        simpa using this
      rw [e2] at hj
      have e3 : v = u := by simpa using hj
      have e5 : j = acc.length := by omega
      rw [← e3, e5]
      exact pv
  · exact q D acc H' hD z.1 hl z.2.1 z.2.2.2 z.2.2.1
end
end LS

/-! Line strikes, layer G: what the laws' own defs use: slices, joined lists, drawn plans and rows. -/
namespace LS
open PySem PySem.Spec PyProof.Rows L2
section
variable {K : PySem.W.Frag} {σ : L2.St} {H : Hp} {Q : VK} {te ta tb : TE} {v : V}
theorem g_tIxO {C : Addr} {sp : Sp} (q : tOp (rIxO C sp) ta tb σ H Q) : tIxO C sp ta tb σ H Q := q
/-! ### the shape of a goal -/
theorem is_rFld {f : Str} {x : V} (q : rFld K f x H Q) : rFld K f x H Q := q
theorem is_rSt {f : Str} {y x : V} {N : Hp → Prop} (q : rSt K f y x H N) : rSt K f y x H N := q
theorem is_rCVal {f : Str} {x : V} (q : rCVal K f x H Q) : rCVal K f x H Q := q
/-! ### steps -/
def tSlG (r : V → Option Int → Option Int → Hp → VK → Prop) (te : TE) (tl th : TO) : TE := L2.tSl r te tl th
theorem pe_sliceG {X : Cx} {r : V → Option Int → Option Int → Hp → VK → Prop} {e : Expr} {lo hi : Option Expr} {te : TE} {tl th : TO} {pos p2 : Pos} (hr : SlR X r) (he : PE X e te) (hl : PO X lo tl) (hu : PO X hi th) : PE X (.Subscript e (.Slice lo hi none p2) pos) (tSlG r te tl th) := pe_slice hr he hl hu
theorem g_slice {r : V → Option Int → Option Int → Hp → VK → Prop} {tl th : TO} (q : te σ H fun x H1 => tl σ H1 fun l H2 => th σ H2 fun u H3 => r x l u H3 Q) : tSlG r te tl th σ H Q := q
theorem g_noPart {R : Option Int → Hp → Prop} (q : R none H) : tNoPart σ H R := q
theorem g_part {R : Option Int → Hp → Prop} (q : te σ H fun x H1 => ∃ i, x = .int i ∧ R (some i) H1) : tPart te σ H R := q
theorem g_pint {i : Int} {P : Int → Prop} (q : P i) : ∃ j, V.int i = V.int j ∧ P j := ⟨i, rfl, q⟩
theorem g_slL {p : Addr} {xs : List V} {lo hi : Option Int} (h : SqL K H p xs) (q : ∀ l H', H l = none → Ex H H' → H' l = some (.lst (cutV xs lo hi)) → H' = upd H l (.lst (cutV xs lo hi)) → Q (.ref l) H') : rSlL K (.ref p) lo hi H Q := ⟨p, xs, rfl, h, fun l z => q l _ z (Ex.nw z) upd_same rfl⟩
def rListOf (K : PySem.W.Frag) : List V → Hp → VK → Prop := fun xs H Q => ∃ p ys, xs = [.ref p] ∧ (SqL K H p ys ∨ SqT K H p ys) ∧ ∀ l, H l = none → Q (.ref l) (upd H l (.lst ys))
theorem call_listG {X : Cx} : CallR X (.type "list") (rListOf X.K) := call_list_of
theorem g_listL {p : Addr} {ys : List V} (h : H p = some (.lst ys)) (q : ∀ l H', H l = none → Ex H H' → H' l = some (.lst ys) → H' = upd H l (.lst ys) → Q (.ref l) H') : rListOf K [.ref p] H Q := ⟨p, ys, rfl, .inl (sq_l h), fun l z => q l _ z (Ex.nw z) upd_same rfl⟩
def rCatG : R2 := rCat
theorem op_catG {X : Cx} : OpR X (binaryOp .Add) rCatG := op_cat
theorem g_cat {p q : Addr} {xs ys : List V} (h1 : H p = some (.lst xs)) (h2 : H q = some (.lst ys)) (hz : xs.length + ys.length ≤ 1000000) (k : ∀ l H', H l = none → Ex H H' → H' l = some (.lst (xs ++ ys)) → Q (.ref l) H') : rCatG (.ref p) (.ref q) H Q :=
  ⟨p, q, xs, ys, rfl, rfl, h1, h2, Nat.le_trans hz (by decide), fun l z => k l _ z (Ex.nw z) upd_same⟩
theorem g_ixS {ls : List Nat} {k c : Nat} (e : ls[k]? = some c) (hz : ls.length ≤ 4000) (q : Q (.str (sgn c)) H) : rIxS (.str (st ls)) (.int (k : Int)) H Q :=
  ⟨st ls, k, c, rfl, rfl, by rw [st_len]; exact Nat.le_trans hz (by decide), by rw [st_list]; exact atI_nat e, q⟩
theorem g_inU {t : Addr} {x : V} {xs : List V} (h : H t = some (.tup xs)) (f : flatV x = true) (fs : xs.all flatV = true) (q : Q (.bl (inV x xs)) H) : rIn K false x (.ref t) H Q := ⟨t, xs, rfl, .inr (sq_t h), f, fs, q⟩
theorem walk_r0 {n : Nat} : Walk (Itr 0 n) n (fun _ => True) (YFn fun i => .int (i : Int)) := walk_range.mono (fun _ h => h) fun i H x H' _ _ y => ⟨y.1, y.2.trans (congrArg V.int (Int.zero_add _))⟩
theorem walk_r1 {n : Nat} : Walk (Itr 1 n) n (fun _ => True) (YFn fun i => .int ((i + 1 : Nat) : Int)) := walk_range.mono (fun _ h => h) fun i H x H' _ _ y => ⟨y.1, y.2.trans (congrArg V.int (show (1 : Int) + (i : Int) = ((i + 1 : Nat) : Int) by omega))⟩
theorem nat_item {ns : List Nat} {i : Nat} {x : V} (h : (ns.map fun (n : Nat) => V.int (n : Int))[i]? = some x) : x = .int ((ns.getD i 0 : Nat) : Int) ∧ i < ns.length := by
  rw [List.getElem?_map] at h
  obtain ⟨n, hn, rfl⟩ := Option.map_eq_some_iff.mp h
  exact ⟨by rw [getD_of hn], (List.getElem?_eq_some_iff.mp hn).1⟩
theorem given_mem {n : Nat} {f : Nat → Bool} {v : Nat → V} {j : Nat} {x : V} (h : (given n f v)[j]? = some x) : ∃ i, i < n ∧ f i = true ∧ x = v i := by
  unfold given at h
  rw [List.getElem?_map] at h
  obtain ⟨i, hi, rfl⟩ := Option.map_eq_some_iff.mp h
  have z := List.mem_filter.mp (List.mem_of_getElem? hi)
  exact ⟨i, List.mem_range.mp z.1, z.2, rfl⟩
theorem given_pos {n : Nat} {f : Nat → Bool} {v : Nat → V} {i : Nat} (hi : i < n) (h : f i = true) : 1 ≤ (given n f v).length := by
  unfold given
  rw [List.length_map]
  exact List.length_pos_of_mem (List.mem_filter.mpr ⟨List.mem_range.mpr hi, h⟩)
/-! ### the laws' drawn things -/
/-- 1 .. 2^k - 1 -/
def Num (k n : Nat) : Prop := 1 ≤ n ∧ n < 2 ^ k
def Nums (k : Nat) (ns : List Nat) : Prop := ∀ n ∈ ns, Num k n
/-- a row of numbers -/
def RowAt (H : Hp) (p : Addr) (k : Nat) (ns : List Nat) : Prop := H p = some (.lst (ns.map fun (n : Nat) => V.int (n : Int))) ∧ Nums k ns
/-- a rule as it is drawn -/
structure DOk (k : Nat) (d : RD) : Prop where
  n1 : 1 ≤ d.ns.length
  n4 : d.ns.length ≤ 4
  ns : Nums k d.ns
  hk : d.k < d.ns.length
  hj : d.j < k
  bit : d.ns.getD d.k 0 / 2 ^ d.j % 2 = 1
def PlanAt (H : Hp) (p : Addr) (d : RD) : Prop := ∃ tc, H p = some (.tup [.ref tc, .int (d.k : Int), .int (d.j : Int), .bl d.l, .bl d.r]) ∧ H tc = some (.tup (d.ns.map fun (n : Nat) => V.int (n : Int)))
variable {H' : Hp} {pn c p : Addr} {m k : Nat} {ns : List Nat} {d : RD}
theorem PlanAt.ep (pe : PenAt H pn c m) (e : Ep pn H H') (h : PlanAt H p d) : PlanAt H' p d := let ⟨tc, h1, h2⟩ := h; ⟨tc, e _ _ (pe.tup h1) h1, e _ _ (pe.tup h2) h2⟩
theorem PlanAt.ex (e : Ex H H') (h : PlanAt H p d) : PlanAt H' p d := let ⟨tc, h1, h2⟩ := h; ⟨tc, e _ _ h1, e _ _ h2⟩
theorem ints_cast (ns : List Nat) : (ns.map fun (n : Nat) => V.int (n : Int)) = (ns.map fun (n : Nat) => (n : Int)).map V.int := by rw [List.map_map]; rfl
theorem PenAt.nats (h : PenAt H pn c m) (e : H p = some (.lst (ns.map fun (n : Nat) => V.int (n : Int)))) : p ≠ pn := h.ints (ns := ns.map fun (n : Nat) => (n : Int)) (by rw [e, ints_cast])
theorem RowAt.ep (pe : PenAt H pn c m) (e : Ep pn H H') (h : RowAt H p k ns) : RowAt H' p k ns := ⟨e _ _ (pe.nats h.1) h.1, h.2⟩
theorem RowAt.ex (e : Ex H H') (h : RowAt H p k ns) : RowAt H' p k ns := ⟨e _ _ h.1, h.2⟩
/-- numbers out of a list of ints that are told one by one -/
theorem nats_of {xs : List V} {P : Nat → Nat → Prop} (h : ∀ (i : Nat) v, xs[i]? = some v → ∃ n : Nat, v = .int (n : Int) ∧ P i n) : ∃ ns : List Nat, xs = ns.map (fun (n : Nat) => V.int (n : Int)) ∧ ∀ (i n : Nat), ns[i]? = some n → P i n := by
  induction xs generalizing P with
  | nil => exact ⟨[], rfl, fun i n z => by cases z⟩
  | cons x r ih =>
    obtain ⟨n, rfl, pn⟩ := h 0 x rfl
    obtain ⟨ns, rfl, q⟩ := ih (P := fun i n => P (i + 1) n) fun i v z => h (i + 1) v z
    refine ⟨n :: ns, rfl, fun i m z => ?_⟩
    cases i with
    | zero => cases z; exact pn
    | succ i => exact q i m z
theorem Num.or {a b : Nat} (h : Num k a) (hb : b < 2 ^ k) : Num k (a ||| b) := ⟨by
  have l := within_left a b
  have z := h.1
  by_cases e : a ||| b = 0
  · rw [e, Nat.and_zero] at l
    omega
  · omega, Nat.or_lt_two_pow h.2 hb⟩
theorem some_bit {n : Nat} (h : Num k n) : ∃ i, i < k ∧ n / 2 ^ i % 2 = 1 := by
  induction k generalizing n with
  | zero => obtain ⟨h1, h2⟩ := h; simp at h2; omega
  | succ k ih =>
    obtain ⟨h1, h2⟩ := h
    by_cases e : n % 2 = 1
    · exact ⟨0, by omega, by simpa using e⟩
    · rw [Nat.pow_succ] at h2
      obtain ⟨i, hi, z⟩ := ih (n := n / 2) ⟨by omega, by omega⟩
      exact ⟨i + 1, by omega, by rw [Nat.pow_succ, Nat.mul_comm, ← Nat.div_div_eq_div_mul]; exact z⟩
/-- a bit stays where more is put in -/
theorem bit_up {a b i : Nat} (h : a / 2 ^ i % 2 = 1) (w : a &&& b = a) : b / 2 ^ i % 2 = 1 := by
  rw [← and_pow] at h ⊢
  intro z
  apply h
  rw [← w, Nat.and_assoc, z, Nat.and_zero]
/-- the texts of numbers tell cells -/
theorem tells_texts {ls ns : List Nat} (h : Nums ls.length ns) : (ns.map fun n => V.str (st (sub ls n))).length = ns.length ∧ ∀ (i : Nat) x n, (ns.map fun n => V.str (st (sub ls n)))[i]? = some x → ns[i]? = some n → Tells K H ls x n ∧ n ≠ 0 := by
  refine ⟨by simp, fun i x n z1 z2 => ?_⟩
  rw [List.getElem?_map, z2] at z1
  cases z1
  have y := h n (List.mem_of_getElem? z2)
  exact ⟨.inr ⟨rfl, y.2⟩, by have := y.1; omega⟩
end
end LS

namespace LK
open PySem PySem.Spec PyProof.Rows L2 LS
local macro_rules | `(tactic| walk_at "go1") => `(tactic| first
  | ((with_reducible refine' g_var ?hgo ?_); (case hgo => rfl))
  | with_reducible refine g_c ?_
  | with_reducible refine g_op ?_
  | with_reducible refine g_cons ?_
  | with_reducible refine g_nil ?_
  | with_reducible refine g_CB ?_
  | with_reducible refine g_I0 ?_
  | ((with_reducible refine g_I ?hgo ?_); (case hgo => walk_at "side"))
  | with_reducible refine g_U ?_
  | ((with_reducible refine g_eq ?hgo ?_); (case hgo => rfl))
  | ((with_reducible refine g_ne ?hgo ?_); (case hgo => rfl))
  | with_reducible refine g_seq ?_
  | with_reducible refine g_asg ?_
  | with_reducible refine g_name ?_
  | with_reducible refine g_next ?_
  | with_reducible refine g_ret ?_
  | with_reducible refine g_ifS ?_
  | with_reducible refine g_drop ?_
  | with_reducible refine g_par ?_
  | with_reducible refine g_two (P := _) ?_
  | with_reducible refine g_lst ?_
  | with_reducible refine g_tup ?_
  | with_reducible refine g_test ?_
  | with_reducible refine g_B ?_
  | with_reducible refine g_bl ?_
  | with_reducible refine g_and ?_
  | with_reducible refine g_orT ?_
  | with_reducible refine g_not ?_
  | with_reducible refine g_if ?_
  | with_reducible refine g_andV ?_
  | with_reducible refine g_orV ?_
  | with_reducible refine g_notV ?_
  | with_reducible refine g_un ?_
  | with_reducible refine g_int1 ?_
  | with_reducible refine g_intb ?_
  | with_reducible refine g_abs ?_
  | with_reducible refine iteT ?_
  | with_reducible refine iteF ?_
  | with_reducible refine g_chain ?_
  | with_reducible refine g_ch ?_
  | with_reducible refine g_lenset ?_
  | with_reducible refine g_ins ?_
  | with_reducible refine g_nins ?_
  | with_reducible refine g_lc ?_
  | with_reducible refine g_iStr ?_
  | with_reducible refine g_strz ?_
  | with_reducible refine g_iEnumT ?_
  | with_reducible refine g_str1 ?_
  | with_reducible refine g_iList ?_
  | with_reducible refine g_iRng1 ?_
  | with_reducible refine g_join ?_
  | with_reducible refine g_isS ?_
  | with_reducible refine g_fld ?_
  | with_reducible refine g_st ?_
  | with_reducible refine g_call ?_
  | with_reducible refine g_make ?_
  | with_reducible refine g_meth ?_
  | with_reducible refine g_prop ?_
  | with_reducible refine g_yes ?_
  | with_reducible refine g_sub ?_
  | with_reducible refine g_gcons ?_
  | with_reducible refine g_gnil ?_
  | with_reducible refine g_nt ?_
  | with_reducible refine g_nf ?_
  | with_reducible refine isi_ss ?_
  | with_reducible refine isi_ii ?_
  | with_reducible refine isi_ib ?_
  | with_reducible refine isi_bb ?_
  | with_reducible refine g_for ?_
  | with_reducible refine g_tIxO ?_
  | with_reducible refine g_slice ?_
  | with_reducible refine g_noPart ?_
  | with_reducible refine g_part ?_
  | with_reducible refine g_pint ?_
  | with_reducible refine g_b1 ?_
  | with_reducible refine g_b2 ?_
  | with_reducible refine g_b3 ?_
  | with_reducible refine g_b4 ?_
  | with_reducible refine g_notR ?_
  | with_reducible refine g_truR ?_
  | with_reducible refine g_makeK ?_
  | with_reducible refine g_lens rfl rfl ?_
  | with_reducible refine g_isNr ?_
  | with_reducible refine g_isNn ?_
  | with_reducible refine g_index ?_
  | with_reducible refine g_iEnumU ?_
  | with_reducible refine g_cval ?_
  | with_reducible refine g_iRng2 ?_
  | with_reducible refine g_iTup ?_
  | with_reducible refine g_iEnum ?_
  | with_reducible refine g_iZip ?_
  | ((with_reducible refine g_turn ?hgo ?_); (case hgo => rfl))
  | walk_at "go2")
local macro_rules | `(tactic| walk_at "go") => `(tactic| repeat walk_at "go1")
local macro_rules | `(tactic| walk_at "side") => `(tactic| first
  | exact True.intro
  | (show (_ : Int) < _; first | decide | omega)
  | (refine ⟨?_, ?_⟩ <;> first | decide | omega)
  | (refine ⟨?_, ?_, ?_⟩ <;> first | decide | omega)
  | (refine Or.inl ⟨?_, ?_⟩ <;> first | decide | omega)
  | (refine Or.inr ⟨?_, ?_⟩ <;> first | decide | omega)
  | decide | omega)
local macro_rules | `(tactic| walk_at "go2") => `(tactic| fail)

section
variable {K : PySem.W.Frag} {mg : Str → Option Value}
theorem HD.exq (T : HD K mg) (i : Nat) {p : PySem.W.Frag → Bool} (e : exL[i]? = some p) : p K = true := List.all_eq_true.mp T.exB p (List.mem_of_getElem? e)
theorem HD.b_int (T : HD K mg) : mg "int" = none := T.free 0 rfl
theorem HD.b_len (T : HD K mg) : mg "len" = none := T.free 1 rfl
theorem HD.b_abs (T : HD K mg) : mg "abs" = none := T.free 2 rfl
theorem HD.b_set (T : HD K mg) : mg "set" = none := T.free 3 rfl
theorem HD.b_isinstance (T : HD K mg) : mg "isinstance" = none := T.free 4 rfl
theorem HD.b_all (T : HD K mg) : mg "all" = none := T.free 5 rfl
theorem HD.b_any (T : HD K mg) : mg "any" = none := T.free 6 rfl
theorem HD.b_enumerate (T : HD K mg) : mg "enumerate" = none := T.free 7 rfl
theorem HD.b_range (T : HD K mg) : mg "range" = none := T.free 8 rfl
theorem HD.b_zip (T : HD K mg) : mg "zip" = none := T.free 9 rfl
theorem HD.b_list (T : HD K mg) : mg "list" = none := T.free 10 rfl
theorem HD.b_tuple (T : HD K mg) : mg "tuple" = none := T.free 11 rfl
theorem HD.b_str (T : HD K mg) : mg "str" = none := T.free 12 rfl
theorem HD.b_bool (T : HD K mg) : mg "bool" = none := T.free 13 rfl
theorem HD.b_sum (T : HD K mg) : mg "sum" = none := T.free 14 rfl
theorem HD.g_ALPHABET (T : HD K mg) : mg "ALPHABET" = some (.str "abcdefghijklmnopqrstuvwxyz" (T.str 15 (z := "abcdefghijklmnopqrstuvwxyz") rfl).choose) := (T.str 15 rfl).choose_spec
theorem HD.g_Values (T : HD K mg) : mg "Values" = some (.ref (He.ga K "Values")) := T.glo 16 rfl
theorem HD.cls_Values (T : HD K mg) : Cls K (He.ga K "Values") := T.cls 17 rfl
theorem HD.mk_Values (T : HD K mg) : Mk K (He.ga K "Values") (He.ma K (He.ga K "Values") "__init__") := T.mkr 18 rfl
theorem HD.na_Values_letters (T : HD K mg) : NoAttr K (He.ga K "Values") "letters" := T.noat 19 rfl
theorem HD.g_Cell (T : HD K mg) : mg "Cell" = some (.ref (He.ga K "Cell")) := T.glo 20 rfl
theorem HD.cls_Cell (T : HD K mg) : Cls K (He.ga K "Cell") := T.cls 21 rfl
theorem HD.mk_Cell (T : HD K mg) : Mk K (He.ga K "Cell") (He.ma K (He.ga K "Cell") "__init__") := T.mkr 22 rfl
theorem HD.na_Cell_alphabet (T : HD K mg) : NoAttr K (He.ga K "Cell") "alphabet" := T.noat 23 rfl
theorem HD.na_Cell_number (T : HD K mg) : NoAttr K (He.ga K "Cell") "number" := T.noat 24 rfl
theorem HD.na_Cell_letters (T : HD K mg) : NoAttr K (He.ga K "Cell") "letters" := T.noat 25 rfl
theorem HD.g_MOST_CELLS (T : HD K mg) : mg "MOST_CELLS" = some (.int 4 (T.int 26 (z := 4) rfl).choose) := (T.int 26 rfl).choose_spec
theorem HD.g_Rule (T : HD K mg) : mg "Rule" = some (.ref (He.ga K "Rule")) := T.glo 27 rfl
theorem HD.cls_Rule (T : HD K mg) : Cls K (He.ga K "Rule") := T.cls 28 rfl
theorem HD.mk_Rule (T : HD K mg) : Mk K (He.ga K "Rule") (He.ma K (He.ga K "Rule") "__init__") := T.mkr 29 rfl
theorem HD.na_Rule_alphabet (T : HD K mg) : NoAttr K (He.ga K "Rule") "alphabet" := T.noat 30 rfl
theorem HD.na_Rule_pattern (T : HD K mg) : NoAttr K (He.ga K "Rule") "pattern" := T.noat 31 rfl
theorem HD.na_Rule_at (T : HD K mg) : NoAttr K (He.ga K "Rule") "at" := T.noat 32 rfl
theorem HD.na_Rule_value (T : HD K mg) : NoAttr K (He.ga K "Rule") "value" := T.noat 33 rfl
theorem HD.na_Rule_left (T : HD K mg) : NoAttr K (He.ga K "Rule") "left" := T.noat 34 rfl
theorem HD.na_Rule_right (T : HD K mg) : NoAttr K (He.ga K "Rule") "right" := T.noat 35 rfl
theorem HD.na_Rule_numbers (T : HD K mg) : NoAttr K (He.ga K "Rule") "numbers" := T.noat 36 rfl
theorem HD.na_Rule_bit (T : HD K mg) : NoAttr K (He.ga K "Rule") "bit" := T.noat 37 rfl
theorem HD.g_Line (T : HD K mg) : mg "Line" = some (.ref (He.ga K "Line")) := T.glo 38 rfl
theorem HD.cls_Line (T : HD K mg) : Cls K (He.ga K "Line") := T.cls 39 rfl
theorem HD.mk_Line (T : HD K mg) : Mk K (He.ga K "Line") (He.ma K (He.ga K "Line") "__init__") := T.mkr 40 rfl
theorem HD.na_Line_alphabet (T : HD K mg) : NoAttr K (He.ga K "Line") "alphabet" := T.noat 41 rfl
theorem HD.na_Line_row (T : HD K mg) : NoAttr K (He.ga K "Line") "row" := T.noat 42 rfl
theorem HD.g_is_letters (T : HD K mg) : mg "is_letters" = some (.ref (He.ga K "is_letters")) := T.glo 43 rfl
theorem HD.g_is_cell_string (T : HD K mg) : mg "is_cell_string" = some (.ref (He.ga K "is_cell_string")) := T.glo 44 rfl
theorem HD.me_Values_eq (T : HD K mg) : Meth K (He.ga K "Values") "__eq__" (He.ma K (He.ga K "Values") "__eq__") := T.meth 45 rfl
theorem HD.me_Values_len (T : HD K mg) : Meth K (He.ga K "Values") "__len__" (He.ma K (He.ga K "Values") "__len__") := T.meth 46 rfl
theorem HD.me_Values_cell (T : HD K mg) : Meth K (He.ga K "Values") "cell" (He.ma K (He.ga K "Values") "cell") := T.meth 47 rfl
theorem HD.me_Cell_need_like (T : HD K mg) : Meth K (He.ga K "Cell") "need_like" (He.ma K (He.ga K "Cell") "need_like") := T.meth 48 rfl
theorem HD.me_Cell_within (T : HD K mg) : Meth K (He.ga K "Cell") "within" (He.ma K (He.ga K "Cell") "within") := T.meth 49 rfl
theorem HD.me_Cell_or (T : HD K mg) : Meth K (He.ga K "Cell") "__or__" (He.ma K (He.ga K "Cell") "__or__") := T.meth 50 rfl
theorem HD.me_Cell_contains (T : HD K mg) : Meth K (He.ga K "Cell") "__contains__" (He.ma K (He.ga K "Cell") "__contains__") := T.meth 51 rfl
theorem HD.me_Cell_bool (T : HD K mg) : Meth K (He.ga K "Cell") "__bool__" (He.ma K (He.ga K "Cell") "__bool__") := T.meth 52 rfl
theorem HD.g_cell_told (T : HD K mg) : mg "cell_told" = some (.ref (He.ga K "cell_told")) := T.glo 53 rfl
theorem HD.g_is_index (T : HD K mg) : mg "is_index" = some (.ref (He.ga K "is_index")) := T.glo 54 rfl
theorem HD.g_is_whole (T : HD K mg) : mg "is_whole" = some (.ref (He.ga K "is_whole")) := T.glo 55 rfl
theorem HD.g_pattern_of (T : HD K mg) : mg "pattern_of" = some (.ref (He.ga K "pattern_of")) := T.glo 56 rfl
theorem HD.me_Rule_need_values (T : HD K mg) : Meth K (He.ga K "Rule") "need_values" (He.ma K (He.ga K "Rule") "need_values") := T.meth 57 rfl
theorem HD.me_Rule_holds (T : HD K mg) : Meth K (He.ga K "Rule") "holds" (He.ma K (He.ga K "Rule") "holds") := T.meth 58 rfl
theorem HD.me_Rule_strikes_in (T : HD K mg) : Meth K (He.ga K "Rule") "strikes_in" (He.ma K (He.ga K "Rule") "strikes_in") := T.meth 59 rfl
theorem HD.me_Rule_spans (T : HD K mg) : Meth K (He.ga K "Rule") "spans" (He.ma K (He.ga K "Rule") "spans") := T.meth 60 rfl
theorem HD.g_item_of (T : HD K mg) : mg "item_of" = some (.ref (He.ga K "item_of")) := T.glo 61 rfl
theorem HD.me_Line_len (T : HD K mg) : Meth K (He.ga K "Line") "__len__" (He.ma K (He.ga K "Line") "__len__") := T.meth 62 rfl
theorem HD.g_numbers_of (T : HD K mg) : mg "numbers_of" = some (.ref (He.ga K "numbers_of")) := T.glo 63 rfl
theorem HD.me_Rule_fits (T : HD K mg) : Meth K (He.ga K "Rule") "fits" (He.ma K (He.ga K "Rule") "fits") := T.meth 64 rfl
theorem HD.me_Rule_hits (T : HD K mg) : Meth K (He.ga K "Rule") "hits" (He.ma K (He.ga K "Rule") "hits") := T.meth 65 rfl
theorem HD.me_Line_need_like (T : HD K mg) : Meth K (He.ga K "Line") "need_like" (He.ma K (He.ga K "Line") "need_like") := T.meth 66 rfl
theorem HD.me_Line_within (T : HD K mg) : Meth K (He.ga K "Line") "within" (He.ma K (He.ga K "Line") "within") := T.meth 67 rfl
theorem HD.me_Line_or (T : HD K mg) : Meth K (He.ga K "Line") "__or__" (He.ma K (He.ga K "Line") "__or__") := T.meth 68 rfl
theorem HD.me_Line_need_place (T : HD K mg) : Meth K (He.ga K "Line") "need_place" (He.ma K (He.ga K "Line") "need_place") := T.meth 69 rfl
theorem HD.me_Line_getitem (T : HD K mg) : Meth K (He.ga K "Line") "__getitem__" (He.ma K (He.ga K "Line") "__getitem__") := T.meth 70 rfl
theorem HD.g_l_pen (T : HD K mg) : mg "_law_pen" = some (.ref (He.ga K "_law_pen")) := T.glo 71 rfl
theorem HD.g_l_draw (T : HD K mg) : mg "_law_draw" = some (.ref (He.ga K "_law_draw")) := T.glo 72 rfl
theorem HD.g_l_pick (T : HD K mg) : mg "_law_pick" = some (.ref (He.ga K "_law_pick")) := T.glo 73 rfl
theorem HD.g_l_letters (T : HD K mg) : mg "_law_letters" = some (.ref (He.ga K "_law_letters")) := T.glo 74 rfl
theorem HD.g_l_text (T : HD K mg) : mg "_law_text" = some (.ref (He.ga K "_law_text")) := T.glo 75 rfl
theorem HD.g_l_cell (T : HD K mg) : mg "_law_cell" = some (.ref (He.ga K "_law_cell")) := T.glo 76 rfl
theorem HD.g_l_plan (T : HD K mg) : mg "_law_plan" = some (.ref (He.ga K "_law_plan")) := T.glo 77 rfl
theorem HD.g_l_rule (T : HD K mg) : mg "_law_rule" = some (.ref (He.ga K "_law_rule")) := T.glo 78 rfl
theorem HD.g_l_line (T : HD K mg) : mg "_law_line" = some (.ref (He.ga K "_law_line")) := T.glo 79 rfl
theorem HD.g_l_part (T : HD K mg) : mg "_law_part" = some (.ref (He.ga K "_law_part")) := T.glo 80 rfl
theorem HD.g_l_near (T : HD K mg) : mg "_law_near" = some (.ref (He.ga K "_law_near")) := T.glo 81 rfl
theorem HD.g_l_wider (T : HD K mg) : mg "_law_wider" = some (.ref (He.ga K "_law_wider")) := T.glo 82 rfl
theorem HD.g_l_narrow_right (T : HD K mg) : mg "_law_narrow_right" = some (.ref (He.ga K "_law_narrow_right")) := T.glo 83 rfl
theorem HD.g_law (T : HD K mg) : mg "law" = some (.ref (He.ga K "law")) := T.glo 84 rfl
theorem HD.ins_Values (T : HD K mg) : InsF K (He.ga K "Values") := insB_ok (T.exq 0 rfl)
theorem HD.sf_Values (T : HD K mg) : PySem.W.selfFirst K (He.ga K "Values") = true := (T.exq 1 rfl)
theorem HD.ins_Cell (T : HD K mg) : InsF K (He.ga K "Cell") := insB_ok (T.exq 2 rfl)
theorem HD.sf_Cell (T : HD K mg) : PySem.W.selfFirst K (He.ga K "Cell") = true := (T.exq 3 rfl)
theorem HD.ins_Rule (T : HD K mg) : InsF K (He.ga K "Rule") := insB_ok (T.exq 4 rfl)
theorem HD.sf_Rule (T : HD K mg) : PySem.W.selfFirst K (He.ga K "Rule") = true := (T.exq 5 rfl)
theorem HD.ins_Line (T : HD K mg) : InsF K (He.ga K "Line") := insB_ok (T.exq 6 rfl)
theorem HD.sf_Line (T : HD K mg) : PySem.W.selfFirst K (He.ga K "Line") = true := (T.exq 7 rfl)
theorem HD.cr_Line (T : HD K mg) : ClX.CRead K (He.ga K "Line") (.type "type") := creadB_ok (T.exq 8 rfl)
theorem HD.cv_Line_LONGEST (T : HD K mg) : ∃ u, ClX.CVal K (He.ga K "Line") (.type "type") "LONGEST" (.int 4001) u := (let ⟨t, z⟩ := cvalB_ok (T.exq 9 rfl); ⟨_, z⟩)
theorem HD.ne_Rule_Cell (T : HD K mg) : He.ga K "Rule" ≠ He.ga K "Cell" := of_decide_eq_true (T.exq 10 rfl)
theorem HD.ne_Rule_Values (T : HD K mg) : He.ga K "Rule" ≠ He.ga K "Values" := of_decide_eq_true (T.exq 11 rfl)
theorem HD.ne_Line_Cell (T : HD K mg) : He.ga K "Line" ≠ He.ga K "Cell" := of_decide_eq_true (T.exq 12 rfl)
theorem HD.ne_Line_Values (T : HD K mg) : He.ga K "Line" ≠ He.ga K "Values" := of_decide_eq_true (T.exq 13 rfl)
theorem HD.kit_Line_Line (T : HD K mg) : PySem.W.kitOne K (.ref (He.ga K "Line")) (.ref (He.ga K "Line")) = some true := of_decide_eq_true (T.exq 14 rfl)
theorem HD.kit_Rule_Rule (T : HD K mg) : PySem.W.kitOne K (.ref (He.ga K "Rule")) (.ref (He.ga K "Rule")) = some true := of_decide_eq_true (T.exq 15 rfl)
theorem HD.kit_Values_Values (T : HD K mg) : PySem.W.kitOne K (.ref (He.ga K "Values")) (.ref (He.ga K "Values")) = some true := of_decide_eq_true (T.exq 16 rfl)
theorem HD.kit_Cell_Cell (T : HD K mg) : PySem.W.kitOne K (.ref (He.ga K "Cell")) (.ref (He.ga K "Cell")) = some true := of_decide_eq_true (T.exq 17 rfl)
theorem HD.kit_Cell_Values (T : HD K mg) : PySem.W.kitOne K (.ref (He.ga K "Cell")) (.ref (He.ga K "Values")) = some false := of_decide_eq_true (T.exq 18 rfl)
theorem HD.kit_str_Cell (T : HD K mg) : PySem.W.kitOne K (.type "str") (.ref (He.ga K "Cell")) = some false := of_decide_eq_true (T.exq 19 rfl)
theorem HD.nf_Values_Values (T : HD K mg) : PySem.W.notFirst K (He.ga K "Values") (.ref (He.ga K "Values")) = true := (T.exq 20 rfl)
theorem HD.nf_Cell_Cell (T : HD K mg) : PySem.W.notFirst K (He.ga K "Cell") (.ref (He.ga K "Cell")) = true := (T.exq 21 rfl)
theorem HD.cr_Values (T : HD K mg) : ClX.CRead K (He.ga K "Values") (.type "type") := creadB_ok (T.exq 22 rfl)
theorem HD.cv_Values_MOST (T : HD K mg) : ∃ u, ClX.CVal K (He.ga K "Values") (.type "type") "MOST" (.int 4) u := (let ⟨t, z⟩ := cvalB_ok (T.exq 23 rfl); ⟨_, z⟩)
theorem HD.pr_Line_cells (T : HD K mg) : PropOf K (He.ga K "Line") "cells" (He.ma K (He.ga K "Line") "cells") (getterOf K (He.ma K (He.ga K "Line") "cells")) := propB_ok (T.exq 24 rfl)
end
local macro_rules | `(tactic| walk_at "go2") => `(tactic| first
  | ((with_reducible refine is_rFld ?_); first
    | refine g_f (f := "letters") (by first | assumption | exact Ex.at (by assumption) (by assumption) | exact upd_same) (HD.cls_Values (by assumption)) (HD.na_Values_letters (by assumption)) (by rfl) ?_
    | refine g_f (f := "alphabet") (by first | assumption | exact Ex.at (by assumption) (by assumption) | exact upd_same) (HD.cls_Cell (by assumption)) (HD.na_Cell_alphabet (by assumption)) (by rfl) ?_
    | refine g_f (f := "number") (by first | assumption | exact Ex.at (by assumption) (by assumption) | exact upd_same) (HD.cls_Cell (by assumption)) (HD.na_Cell_number (by assumption)) (by rfl) ?_
    | refine g_f (f := "letters") (by first | assumption | exact Ex.at (by assumption) (by assumption) | exact upd_same) (HD.cls_Cell (by assumption)) (HD.na_Cell_letters (by assumption)) (by rfl) ?_
    | refine g_f (f := "alphabet") (by first | assumption | exact Ex.at (by assumption) (by assumption) | exact upd_same) (HD.cls_Rule (by assumption)) (HD.na_Rule_alphabet (by assumption)) (by rfl) ?_
    | refine g_f (f := "pattern") (by first | assumption | exact Ex.at (by assumption) (by assumption) | exact upd_same) (HD.cls_Rule (by assumption)) (HD.na_Rule_pattern (by assumption)) (by rfl) ?_
    | refine g_f (f := "at") (by first | assumption | exact Ex.at (by assumption) (by assumption) | exact upd_same) (HD.cls_Rule (by assumption)) (HD.na_Rule_at (by assumption)) (by rfl) ?_
    | refine g_f (f := "value") (by first | assumption | exact Ex.at (by assumption) (by assumption) | exact upd_same) (HD.cls_Rule (by assumption)) (HD.na_Rule_value (by assumption)) (by rfl) ?_
    | refine g_f (f := "left") (by first | assumption | exact Ex.at (by assumption) (by assumption) | exact upd_same) (HD.cls_Rule (by assumption)) (HD.na_Rule_left (by assumption)) (by rfl) ?_
    | refine g_f (f := "right") (by first | assumption | exact Ex.at (by assumption) (by assumption) | exact upd_same) (HD.cls_Rule (by assumption)) (HD.na_Rule_right (by assumption)) (by rfl) ?_
    | refine g_f (f := "numbers") (by first | assumption | exact Ex.at (by assumption) (by assumption) | exact upd_same) (HD.cls_Rule (by assumption)) (HD.na_Rule_numbers (by assumption)) (by rfl) ?_
    | refine g_f (f := "bit") (by first | assumption | exact Ex.at (by assumption) (by assumption) | exact upd_same) (HD.cls_Rule (by assumption)) (HD.na_Rule_bit (by assumption)) (by rfl) ?_
    | refine g_f (f := "alphabet") (by first | assumption | exact Ex.at (by assumption) (by assumption) | exact upd_same) (HD.cls_Line (by assumption)) (HD.na_Line_alphabet (by assumption)) (by rfl) ?_
    | refine g_f (f := "row") (by first | assumption | exact Ex.at (by assumption) (by assumption) | exact upd_same) (HD.cls_Line (by assumption)) (HD.na_Line_row (by assumption)) (by rfl) ?_)
  | ((with_reducible refine is_rSt ?_); first
    | refine g_s (f := "letters") (by first | assumption | exact Ex.at (by assumption) (by assumption) | exact upd_same) (HD.cls_Values (by assumption)) (HD.na_Values_letters (by assumption)) (by repeat first | decide | refine pl ?_) ?_
    | refine g_s (f := "alphabet") (by first | assumption | exact Ex.at (by assumption) (by assumption) | exact upd_same) (HD.cls_Cell (by assumption)) (HD.na_Cell_alphabet (by assumption)) (by repeat first | decide | refine pl ?_) ?_
    | refine g_s (f := "number") (by first | assumption | exact Ex.at (by assumption) (by assumption) | exact upd_same) (HD.cls_Cell (by assumption)) (HD.na_Cell_number (by assumption)) (by repeat first | decide | refine pl ?_) ?_
    | refine g_s (f := "letters") (by first | assumption | exact Ex.at (by assumption) (by assumption) | exact upd_same) (HD.cls_Cell (by assumption)) (HD.na_Cell_letters (by assumption)) (by repeat first | decide | refine pl ?_) ?_
    | refine g_s (f := "alphabet") (by first | assumption | exact Ex.at (by assumption) (by assumption) | exact upd_same) (HD.cls_Rule (by assumption)) (HD.na_Rule_alphabet (by assumption)) (by repeat first | decide | refine pl ?_) ?_
    | refine g_s (f := "pattern") (by first | assumption | exact Ex.at (by assumption) (by assumption) | exact upd_same) (HD.cls_Rule (by assumption)) (HD.na_Rule_pattern (by assumption)) (by repeat first | decide | refine pl ?_) ?_
    | refine g_s (f := "at") (by first | assumption | exact Ex.at (by assumption) (by assumption) | exact upd_same) (HD.cls_Rule (by assumption)) (HD.na_Rule_at (by assumption)) (by repeat first | decide | refine pl ?_) ?_
    | refine g_s (f := "value") (by first | assumption | exact Ex.at (by assumption) (by assumption) | exact upd_same) (HD.cls_Rule (by assumption)) (HD.na_Rule_value (by assumption)) (by repeat first | decide | refine pl ?_) ?_
    | refine g_s (f := "left") (by first | assumption | exact Ex.at (by assumption) (by assumption) | exact upd_same) (HD.cls_Rule (by assumption)) (HD.na_Rule_left (by assumption)) (by repeat first | decide | refine pl ?_) ?_
    | refine g_s (f := "right") (by first | assumption | exact Ex.at (by assumption) (by assumption) | exact upd_same) (HD.cls_Rule (by assumption)) (HD.na_Rule_right (by assumption)) (by repeat first | decide | refine pl ?_) ?_
    | refine g_s (f := "numbers") (by first | assumption | exact Ex.at (by assumption) (by assumption) | exact upd_same) (HD.cls_Rule (by assumption)) (HD.na_Rule_numbers (by assumption)) (by repeat first | decide | refine pl ?_) ?_
    | refine g_s (f := "bit") (by first | assumption | exact Ex.at (by assumption) (by assumption) | exact upd_same) (HD.cls_Rule (by assumption)) (HD.na_Rule_bit (by assumption)) (by repeat first | decide | refine pl ?_) ?_
    | refine g_s (f := "alphabet") (by first | assumption | exact Ex.at (by assumption) (by assumption) | exact upd_same) (HD.cls_Line (by assumption)) (HD.na_Line_alphabet (by assumption)) (by repeat first | decide | refine pl ?_) ?_
    | refine g_s (f := "row") (by first | assumption | exact Ex.at (by assumption) (by assumption) | exact upd_same) (HD.cls_Line (by assumption)) (HD.na_Line_row (by assumption)) (by repeat first | decide | refine pl ?_) ?_)
  | ((with_reducible refine is_rCVal ?_); first
    | refine g_cv (HD.cr_Line (by assumption)) (HD.cv_Line_LONGEST (by assumption)) ?_
    | refine g_cv (HD.cr_Values (by assumption)) (HD.cv_Values_MOST (by assumption)) ?_))
section
variable {P : Program} {w : World} {K : PySem.W.Frag} {mg : Str → Option Value} {base : Heap}
def spIsLetters : Sp := fun vs H Q _ => ∃ (ls : List Nat) (lo hi : Int), vs = [.str (st ls), .int lo, .int hi] ∧ ls.length ≤ 4000 ∧ ∀ H', Ex H H' → Q (.bl (decide ((lo ≤ (ls.length : Int) ∧ (ls.length : Int) ≤ hi) ∧ ls.Nodup ∧ ∀ c ∈ ls, c ∈ alpha))) H'
abbrev N_is_letters : List Str := ["thing", "least", "most", "letter"]
theorem sc_is_letters : FnScope N_is_letters ["thing", "least", "most"] (defScope (topS 16)) := ⟨rfl, rfl, rfl, by decide +kernel, rfl, by decide +kernel, by decide +kernel⟩
theorem ok_is_letters {f : Addr} {fd : FuncData} (T : HD K mg) (F : FunD K "is_letters" "is_letters" (defArgs (topS 16)) (defBody (topS 16)) (defScope (topS 16)) [] [] f fd) : FnOk P w K mg base (L2.CX P w) 1 f fd ["thing", "least", "most"] spIsLetters := by
  refine F.ok sc_is_letters (fun vs H Q E h => by obtain ⟨_, _, _, rfl, _⟩ := h; rfl) (fun cdv A outer s H vs Q E hr h => ?_)
  refine ⟨_, (pss_cons (ps_if (PW.pt (pw_or (pt_not (pt_val (pe_callB call_isi rfl T.b_isinstance (by decide +kernel) (pa_cons (pv 0) (pa_cons (pe_bltn (v := .ty "str") (u := .type "str") rfl T.b_str (by decide +kernel) rfl) pa_nil))))) (pw_or (pt_not (pt_chain op_le op_le (pv 1) (pe_callB call_lenT rfl T.b_len PySem.boot_len (pa_cons (pv 0) pa_nil)) (pv 2))) (pw_or1 (pt_cmpR op_lt (pe_lenSetT rfl rfl T.b_len rfl T.b_set (pv 0)) (pe_callB call_lenT rfl T.b_len PySem.boot_len (pa_cons (pv 0) pa_nil)) (nomark _))))))
 (pss_one (ps_ret pe_bl))
 pss_nil)
 (pss_one (ps_ret (pe_callB (cr_all rfl) rfl T.b_all (by decide +kernel) (pa_cons (pe_lc (own := [("letter", 3)]) (g := gName 3) rfl sc_is_letters.nd (pi_str (pv 0)) (blkOk_by (own := [("letter", 3)]) (N := N_is_letters) (sc := defScope (topS 16)) (by decide +kernel)) (fun _ _ _ _ _ => (pg_name (i := 3) sc_is_letters.nd rfl (by first | exact .inl rfl | exact .inr rfl))) (fun _ _ _ _ _ => pts_nil) (fun _ _ _ _ _ => (pe_cmpR op_insG (pv 3) (pe_glob (v := .str "abcdefghijklmnopqrstuvwxyz") rfl T.g_ALPHABET ⟨_, rfl⟩) rfl))) pa_nil))))), ?_⟩
  try dsimp only [cxOf]
  obtain ⟨ls, lo, hi, rfl, hz, q⟩ := h
  have no : ∀ (b : Prop) [Decidable b], ¬ b → ∀ H', Ex H H' → (∀ H', Ex H H' → Q (.bl (decide b)) H') → Q (.bl false) H' := fun b _ nb H' e k => by
    have z := k H' e
    rw [decide_eq_false nb] at z
    exact z
  walk_at "go"
  refine g_lenT (by rw [st_len]; omega) ?_
  rw [st_len]
  walk_at "go"
  refine if_split (fun h1 => ?_) (fun h1 => ?_)
  · walk_at "go"
    refine ifn_split (fun h2 => ?_) (fun h2 => ?_)
    · walk_at "go"
      exact no _ (fun z => h2 z.1.2) _ Ex.rfl' q
    · walk_at "go"
      refine g_ls (by rw [st_size]; omega) ?_
      rw [st_size, st_list]
      walk_at "go"
      refine g_lenT (by rw [st_len]; omega) ?_
      rw [st_len]
      walk_at "go"
      refine if_split (fun h3 => ?_) (fun h3 => ?_)
      · walk_at "go"
        refine no _ (fun z => ?_) _ Ex.rfl' q
        have := (fresh_nodup ls ls.length (Nat.le_refl _)).mpr (by rw [List.take_length]; exact z.2.1)
        omega
      · walk_at "go"
        refine g_lcV walk_str (fun _ => true) (fun i => .bl (decide (ls.getD i 0 ∈ alpha))) (fun _ _ => trivial) (by rw [st_size]; omega) (fun i x H1 H2 hi e12 y => ?_) fun D H' hD e hl => ?_
        · obtain ⟨rfl, c, hc, rfl⟩ := y
          refine ⟨Ex.rfl', fun Yes No hy _ => ?_⟩
          walk_at "go"
          rw [alpha_st, st_list, ← (str_item hc).1]
          exact hy rfl _ Ex.rfl'
        · rw [st_size] at hl
          have hl := hl.trans (congrArg (fun z => some (HO.lst z)) (given_mapB ls 0 fun c => decide (c ∈ alpha)))
          walk_at "go"
          refine g_all hl ?_
          rw [all_dec]
          have z := q H' e
          have h4 : ls.Nodup := by
            rw [← List.take_length (l := ls)]
            exact (fresh_nodup ls ls.length (Nat.le_refl _)).mp (by have := fresh_le ls ls.length; omega)
          rw [show decide ((lo ≤ (ls.length : Int) ∧ (ls.length : Int) ≤ hi) ∧ ls.Nodup ∧ ∀ c ∈ ls, c ∈ alpha) = decide (∀ c ∈ ls, c ∈ alpha) from decide_eq_decide.mpr ⟨fun z => z.2.2, fun z => ⟨⟨h1, h2⟩, h4, z⟩⟩] at z
          exact z
  · walk_at "go"
    exact no _ (fun z => h1 z.1.1) _ Ex.rfl' q
theorem c_is_letters (T : HD K mg) : Gbl P w K mg base "is_letters" 1 spIsLetters := by
  obtain ⟨fd, F⟩ := T.fnd 0 rfl
  exact ⟨_, fd, ["thing", "least", "most"], ok_is_letters T F, T.g_is_letters, F.kp, F.bindsN fun _ _ _ _ _ _ us hl => match us, hl with | [_, _, _], _ => rfl⟩
def spCellString : Sp := fun vs H Q _ => ∃ (ls ts : List Nat), vs = [.str (st ls), .str (st ts)] ∧ ts.length ≤ 4000 ∧ ∀ H', Ex H H' → Q (.bl (decide (ts.Nodup ∧ ∀ c ∈ ts, c ∈ ls))) H'
abbrev N_is_cell_string : List Str := ["letters", "thing", "letter"]
theorem sc_is_cell_string : FnScope N_is_cell_string ["letters", "thing"] (defScope (topS 17)) := ⟨rfl, rfl, rfl, by decide +kernel, rfl, by decide +kernel, by decide +kernel⟩
theorem ok_is_cell_string {f : Addr} {fd : FuncData} (T : HD K mg) (F : FunD K "is_cell_string" "is_cell_string" (defArgs (topS 17)) (defBody (topS 17)) (defScope (topS 17)) [] [] f fd) : FnOk P w K mg base (L2.CX P w) 1 f fd ["letters", "thing"] spCellString := by
  refine F.ok sc_is_cell_string (fun vs H Q E h => by obtain ⟨_, _, rfl, _⟩ := h; rfl) (fun cdv A outer s H vs Q E hr h => ?_)
  refine ⟨_, (pss_cons (ps_if (PW.pt (pw_or (pt_not (pt_val (pe_callB call_isi rfl T.b_isinstance (by decide +kernel) (pa_cons (pv 1) (pa_cons (pe_bltn (v := .ty "str") (u := .type "str") rfl T.b_str (by decide +kernel) rfl) pa_nil))))) (pw_or1 (pt_cmpR op_lt (pe_lenSetT rfl rfl T.b_len rfl T.b_set (pv 1)) (pe_callB call_lenT rfl T.b_len PySem.boot_len (pa_cons (pv 1) pa_nil)) (nomark _)))))
 (pss_one (ps_ret pe_bl))
 pss_nil)
 (pss_one (ps_ret (pe_callB (cr_all rfl) rfl T.b_all (by decide +kernel) (pa_cons (pe_lc (own := [("letter", 2)]) (g := gName 2) rfl sc_is_cell_string.nd (pi_str (pv 1)) (blkOk_by (own := [("letter", 2)]) (N := N_is_cell_string) (sc := defScope (topS 17)) (by decide +kernel)) (fun _ _ _ _ _ => (pg_name (i := 2) sc_is_cell_string.nd rfl (by first | exact .inl rfl | exact .inr rfl))) (fun _ _ _ _ _ => pts_nil) (fun _ _ _ _ _ => (pe_cmpR op_insG (pv 2) (pv 0) rfl))) pa_nil))))), ?_⟩
  try dsimp only [cxOf]
  obtain ⟨ls, ts, rfl, hz, q⟩ := h
  have no : ∀ (b : Prop) [Decidable b], ¬ b → ∀ H', Ex H H' → (∀ H', Ex H H' → Q (.bl (decide b)) H') → Q (.bl false) H' := fun b _ nb H' e k => by
    have z := k H' e
    rw [decide_eq_false nb] at z
    exact z

  walk_at "go"
  refine g_ls (by rw [st_size]; omega) ?_
  rw [st_size, st_list]
  walk_at "go"
  refine g_lenT (by rw [st_len]; omega) ?_
  rw [st_len]
  walk_at "go"
  refine if_split (fun h3 => ?_) (fun h3 => ?_)
  · walk_at "go"
    refine no _ (fun z => ?_) _ Ex.rfl' q
    have := (fresh_nodup ts ts.length (Nat.le_refl _)).mpr (by rw [List.take_length]; exact z.1)
    omega
  · walk_at "go"
    refine g_lcV walk_str (fun _ => true) (fun i => .bl (decide (ts.getD i 0 ∈ ls))) (fun _ _ => trivial) (by rw [st_size]; omega) (fun i x H1 H2 hi e12 y => ?_) fun D H' hD e hl => ?_
    · obtain ⟨rfl, c, hc, rfl⟩ := y
      refine ⟨Ex.rfl', fun Yes No hy _ => ?_⟩
      walk_at "go"
      rw [st_list, ← (str_item hc).1]
      exact hy rfl _ Ex.rfl'
    · rw [st_size] at hl
      have hl := hl.trans (congrArg (fun z => some (HO.lst z)) (given_mapB ts 0 fun c => decide (c ∈ ls)))
      walk_at "go"
      refine g_all hl ?_
      rw [all_dec]
      have z := q H' e
      have h4 : ts.Nodup := by
        rw [← List.take_length (l := ts)]
        exact (fresh_nodup ts ts.length (Nat.le_refl _)).mp (by have := fresh_le ts ts.length; omega)
      rw [show decide (ts.Nodup ∧ ∀ c ∈ ts, c ∈ ls) = decide (∀ c ∈ ts, c ∈ ls) from decide_eq_decide.mpr ⟨fun z => z.2, fun z => ⟨h4, z⟩⟩] at z
      exact z
theorem c_is_cell_string (T : HD K mg) : Gbl P w K mg base "is_cell_string" 1 spCellString := by
  obtain ⟨fd, F⟩ := T.fnd 1 rfl
  exact ⟨_, fd, ["letters", "thing"], ok_is_cell_string T F, T.g_is_cell_string, F.kp, F.bindsN fun _ _ _ _ _ _ us hl => match us, hl with | [_, _], _ => rfl⟩
def spVInit (K : PySem.W.Frag) : Sp := fun vs H Q _ => ∃ (a dx : Addr) (ls : List Nat), vs = [.ref a, .str (st ls)] ∧ OkL ls ∧ H a = some (.ins (CV K) dx []) ∧ ∀ H', Ep a H H' → H' a = some (.ins (CV K) dx (vF ls)) → Q .non H'
abbrev N_Values_init : List Str := ["self", "letters"]
theorem sc_Values_init : FnScope N_Values_init ["self", "letters"] (defScope (inClass (topS 21) 1)) := ⟨rfl, rfl, rfl, by decide +kernel, rfl, by decide +kernel, by decide +kernel⟩
theorem ok_Values_init {f : Addr} {fd : FuncData} (T : HD K mg) (F : FunD K "__init__" "Values.__init__" (defArgs (inClass (topS 21) 1)) (defBody (inClass (topS 21) 1)) (defScope (inClass (topS 21) 1)) [] [] f fd) : FnOk P w K mg base (L2.CX P w) 2 f fd ["self", "letters"] (spVInit K) := by
  refine F.ok sc_Values_init (fun vs H Q E h => by obtain ⟨_, _, _, rfl, _⟩ := h; rfl) (fun cdv A outer s H vs Q E hr h => ?_)
  refine ⟨_, (pss_cons (ps_if (pt_not (pt_val (pe_g (c_is_letters T) hr (by decide) rfl (pa_cons (pv 1) (pa_cons pe_int (pa_cons (ClX.pe_cval (pe_glob (v := .ref (He.ga _ "Values")) rfl T.g_Values rfl)) pa_nil))))))
 (pss_one ps_never)
 pss_nil)
 (pss_one (ps_fld (pv 0) (pv 1) rfl))), ?_⟩
  try dsimp only [cxOf]
  obtain ⟨a, dx, ls, rfl, ok, ha, q⟩ := h
  walk_at "go"
  refine ⟨ls, 2, 4, rfl, by have := ok.l4; omega, fun H' e => ?_⟩
  rw [decide_eq_true (⟨⟨by have := ok.l2; omega, by have := ok.l4; omega⟩, ok.nd, ok.al⟩ : ((2 : Int) ≤ ls.length ∧ (ls.length : Int) ≤ 4) ∧ ls.Nodup ∧ ∀ c ∈ ls, c ∈ alpha)]
  walk_at "go"
  exact q _ (fun b o nb z => (upd_ne nb).trans (e _ _ z)) upd_same
theorem c_Values (T : HD K mg) : Mkr P w K mg base "Values" (He.ga K "Values") 2 (spVInit K) := by
  obtain ⟨fd, F⟩ := T.fnd 2 rfl
  exact ⟨_, fd, ["self", "letters"], T.mk_Values, ok_Values_init T F, T.g_Values, F.bindsN fun _ _ _ _ _ _ us hl => match us, hl with | [_, _], _ => rfl⟩
def spVEq (K : PySem.W.Frag) : Sp := fun vs H Q _ => ∃ (a b : Addr) (ls ls' : List Nat), vs = [.ref a, .ref b] ∧ ValsAt K H a ls ∧ ValsAt K H b ls' ∧ Q (.bl (decide (ls = ls'))) H
abbrev N_Values_eq : List Str := ["self", "other"]
theorem sc_Values_eq : FnScope N_Values_eq ["self", "other"] (defScope (inClass (topS 21) 11)) := ⟨rfl, rfl, rfl, by decide +kernel, rfl, by decide +kernel, by decide +kernel⟩
theorem ok_Values_eq {f : Addr} {fd : FuncData} (T : HD K mg) (F : FunD K "__eq__" "Values.__eq__" (defArgs (inClass (topS 21) 11)) (defBody (inClass (topS 21) 11)) (defScope (inClass (topS 21) 11)) [] [] f fd) : FnOk P w K mg base (L2.CX P w) 1 f fd ["self", "other"] (spVEq K) := by
  refine F.ok sc_Values_eq (fun vs H Q E h => by obtain ⟨_, _, _, _, rfl, _⟩ := h; rfl) (fun cdv A outer s H vs Q E hr h => ?_)
  refine ⟨_, (pss_one (ps_ret (pe_and (pe_callB call_isi rfl T.b_isinstance (by decide +kernel) (pa_cons (pv 1) (pa_cons (pe_glob (v := .ref (He.ga _ "Values")) rfl T.g_Values rfl) pa_nil))) (pe_one (pe_cmpR op_eq (pe_fld (pv 0) rfl) (pe_fld (pv 1) rfl) (nomark _)))))), ?_⟩
  try dsimp only [cxOf]
  obtain ⟨a, b, ls, ls', rfl, ⟨da, ha⟩, ⟨db, hb⟩, q⟩ := h
  walk_at "go"
  refine isi_o hb T.cls_Values T.ins_Values (.own _) T.kit_Values_Values ?_
  walk_at "go"
  rw [dvs]
  exact q
theorem c_Values_eq (T : HD K mg) : Mth P w K mg base (He.ga K "Values") "__eq__" 1 (spVEq K) := by
  obtain ⟨fd, F⟩ := T.fnd 3 rfl
  exact ⟨_, fd, ["self", "other"], T.cls_Values, T.me_Values_eq, ok_Values_eq T F, F.bindsN fun _ _ _ _ _ _ us hl => match us, hl with | [_, _], _ => rfl, fnIn_of F⟩
def spVLen (K : PySem.W.Frag) : Sp := fun vs H Q _ => ∃ (a : Addr) (ls : List Nat), vs = [.ref a] ∧ ValsAt K H a ls ∧ OkL ls ∧ Q (.int (ls.length : Int)) H
abbrev N_Values_len : List Str := ["self"]
theorem sc_Values_len : FnScope N_Values_len ["self"] (defScope (inClass (topS 21) 10)) := ⟨rfl, rfl, rfl, by decide +kernel, rfl, by decide +kernel, by decide +kernel⟩
theorem ok_Values_len {f : Addr} {fd : FuncData} (T : HD K mg) (F : FunD K "__len__" "Values.__len__" (defArgs (inClass (topS 21) 10)) (defBody (inClass (topS 21) 10)) (defScope (inClass (topS 21) 10)) [] [] f fd) : FnOk P w K mg base (L2.CX P w) 1 f fd ["self"] (spVLen K) := by
  refine F.ok sc_Values_len (fun vs H Q E h => by obtain ⟨_, _, rfl, _⟩ := h; rfl) (fun cdv A outer s H vs Q E hr h => ?_)
  refine ⟨_, (pss_one (ps_ret (pe_callB call_lenT rfl T.b_len PySem.boot_len (pa_cons (pe_fld (pv 0) rfl) pa_nil)))), ?_⟩
  try dsimp only [cxOf]
  obtain ⟨a, ls, rfl, ⟨da, ha⟩, ok, q⟩ := h
  have l4 := ok.l4
  walk_at "go"
  refine g_lenT (by rw [st_len]; omega) ?_
  rw [st_len]
  walk_at "go"
  exact q
theorem c_Values_len (T : HD K mg) : Mth P w K mg base (He.ga K "Values") "__len__" 1 (spVLen K) := by
  obtain ⟨fd, F⟩ := T.fnd 4 rfl
  exact ⟨_, fd, ["self"], T.cls_Values, T.me_Values_len, ok_Values_len T F, F.bindsN fun _ _ _ _ _ _ us hl => match us, hl with | [_], _ => rfl, fnIn_of F⟩
def spCInit (K : PySem.W.Frag) : Sp := fun vs H Q _ => ∃ (x dx va : Addr) (ls : List Nat) (n : Nat), vs = [.ref x, .ref va, .int (n : Int)] ∧ H x = some (.ins (CC K) dx []) ∧ ValsAt K H va ls ∧ OkL ls ∧ n < 2 ^ ls.length ∧
  ∀ H', Ep x H H' → H' x = some (.ins (CC K) dx (cF va n (sub ls n))) → Q .non H'
abbrev N_Cell_init : List Str := ["self", "values", "number", "at", "letter"]
theorem sc_Cell_init : FnScope N_Cell_init ["self", "values", "number"] (defScope (inClass (topS 20) 0)) := ⟨rfl, rfl, rfl, by decide +kernel, rfl, by decide +kernel, by decide +kernel⟩
theorem ok_Cell_init {f : Addr} {fd : FuncData} (T : HD K mg) (F : FunD K "__init__" "Cell.__init__" (defArgs (inClass (topS 20) 0)) (defBody (inClass (topS 20) 0)) (defScope (inClass (topS 20) 0)) [] [] f fd) : FnOk P w K mg base (L2.CX P w) 1 f fd ["self", "values", "number"] (spCInit K) := by
  refine F.ok sc_Cell_init (fun vs H Q E h => by obtain ⟨_, _, _, _, _, rfl, _⟩ := h; rfl) (fun cdv A outer s H vs Q E hr h => ?_)
  refine ⟨_, (pss_cons (ps_fld (pv 0) (pv 1) rfl)
 (pss_cons (ps_fld (pv 0) (pv 2) rfl)
 (pss_one (ps_fld (pv 0) (pe_joinG pe_str (pe_lc (own := [("at", 3), ("letter", 4)]) (g := gTup K 2 (gCons (gName 3) (gCons (gName 4) gNil))) rfl sc_Cell_init.nd (pi_enumT rfl T.b_enumerate (pa_cons (pe_fld (pv 1) rfl) pa_nil)) (blkOk_by (own := [("at", 3), ("letter", 4)]) (N := N_Cell_init) (sc := defScope (inClass (topS 20) 0)) (by decide +kernel)) (fun _ _ _ _ _ => (pg_tup rfl (pgs_cons (pg_name (i := 3) sc_Cell_init.nd rfl (by first | exact .inl rfl | exact .inr rfl)) (pgs_cons (pg_name (i := 4) sc_Cell_init.nd rfl (by first | exact .inl rfl | exact .inr rfl)) pgs_nil)))) (fun _ _ _ _ _ => (pts_one (pt_cmpR op_eq (pe_op op_and (pe_op op_shr (pv 2) (pv 3)) pe_int) pe_int (nomark _)))) (fun _ _ _ _ _ => (pv 4)))) rfl)))), ?_⟩
  try dsimp only [cxOf]
  obtain ⟨x, dx, va, ls, n, rfl, hx, ⟨dv, hv⟩, ok, hn, q⟩ := h
  have l4 := ok.l4
  have ne : va ≠ x := fun e => by
    rw [e, hx] at hv
    injection hv with z
    injection z with _ _ z
    cases z
  walk_at "go"
  have hv1 : ∀ {o o2}, (upd (upd H x o) x o2) va = some (.ins (CV K) dv (vF ls)) := (upd_ne ne).trans ((upd_ne ne).trans hv)
  refine g_f hv1 T.cls_Values T.na_Values_letters rfl ?_
  walk_at "go"
  have ep1 : ∀ {o o2}, Ep x H (upd (upd H x o) x o2) := fun {o o2} a u na z => (upd_ne na).trans ((upd_ne na).trans z)
  refine g_lcV walk_enumT (fun i => decide (n / 2 ^ i % 2 = 1)) (fun i => .str (sgn (ls.getD i 0))) (fun _ _ => trivial) (by rw [st_size]; omega) (fun i y H1 H2 hi e12 z => ?_) fun D H2 hD e hl => ?_
  · obtain ⟨tp, c, rfl, hT, rfl, hc⟩ := z
    refine ⟨Ex.nw hT, fun Yes No hy hno => ?_⟩
    walk_at "go"
    refine g_gtup (sq_t upd_same) rfl ?_
    walk_at "go"
    rw [bit_n]
    rw [show (1 : Int) = ((1 : Nat) : Int) from rfl, dvn]
    rw [(str_item hc).1] at hy
    refine if_split (fun h1 => ?_) (fun h1 => ?_)
    · walk_at "go"
      exact hy (decide_eq_true h1) _ Ex.rfl'
    · exact hno (decide_eq_false h1) _ Ex.rfl'
  · rw [st_size, sub_given] at hl
    walk_at "go"
    refine g_jn (ys := (sub ls n).map sgn) (hl.trans (by rw [List.map_map]; rfl)) ?_ ?_
    · rw [sum_ones]
      have z := sub_len ls n
      have z2 : (("" : Str)).length = 0 := rfl
      rw [z2]
      omega
    · have ex : H2 x = some _ := e _ _ upd_same
      walk_at "go"
      refine q _ (fun a u na z => (upd_ne na).trans (e _ _ (ep1 _ _ na z))) ?_
      rw [upd_same, show (("" : Str)) = st [] from rfl, join_sgn, cF_put]
theorem c_Cell (T : HD K mg) : Mkr P w K mg base "Cell" (He.ga K "Cell") 1 (spCInit K) := by
  obtain ⟨fd, F⟩ := T.fnd 5 rfl
  exact ⟨_, fd, ["self", "values", "number"], T.mk_Cell, ok_Cell_init T F, T.g_Cell, F.bindsN fun _ _ _ _ _ _ us hl => match us, hl with | [_, _, _], _ => rfl⟩
theorem mkC {K : PySem.W.Frag} {H : Hp} {Q : VK} {va : Addr} {ls : List Nat} {n : Nat} (v : ValsAt K H va ls) (ok : OkL ls) (hn : n < 2 ^ ls.length) (q : ∀ x H', Ex H H' → H x = none → CellAt K H' x va ls n → Q (.ref x) H') : kMk (CC K) (spCInit K) [.ref va, .int (n : Int)] H Q := by
  intro x dx hx hdx ne
  have e1 : Ex H (upd (upd H dx (.own x)) x (.ins (CC K) dx [])) := fun a o z => (upd_ne (ne_of_none z hx)).trans ((upd_ne (ne_of_none z hdx)).trans z)
  refine ⟨x, dx, va, ls, n, rfl, upd_same, v.ex e1, ok, hn, fun H2 ep e => ⟨rfl, ?_⟩⟩
  have e2 : Ex H H2 := fun a o z => ep a o (ne_of_none z hx) (e1 a o z)
  exact q x H2 e2 hx ⟨⟨dx, e⟩, v.ex e2, hn⟩
def spVCell (K : PySem.W.Frag) : Sp := fun vs H Q _ => ∃ (a : Addr) (ls : List Nat) (n : Nat), vs = [.ref a, .str (st (sub ls n))] ∧ ValsAt K H a ls ∧ OkL ls ∧ n < 2 ^ ls.length ∧ ∀ x H', Ex H H' → CellAt K H' x a ls n → Q (.ref x) H'
abbrev N_Values_cell : List Str := ["self", "letters", "letter"]
theorem sc_Values_cell : FnScope N_Values_cell ["self", "letters"] (defScope (inClass (topS 21) 3)) := ⟨rfl, rfl, rfl, by decide +kernel, rfl, by decide +kernel, by decide +kernel⟩
theorem ok_Values_cell {f : Addr} {fd : FuncData} (T : HD K mg) (F : FunD K "cell" "Values.cell" (defArgs (inClass (topS 21) 3)) (defBody (inClass (topS 21) 3)) (defScope (inClass (topS 21) 3)) [] [] f fd) : FnOk P w K mg base (L2.CX P w) 3 f fd ["self", "letters"] (spVCell K) := by
  refine F.ok sc_Values_cell (fun vs H Q E h => by obtain ⟨_, _, _, rfl, _⟩ := h; rfl) (fun cdv A outer s H vs Q E hr h => ?_)
  refine ⟨_, (pss_cons (ps_if (pt_not (pt_val (pe_g (c_is_cell_string T) hr (by decide) rfl (pa_cons (pe_fld (pv 0) rfl) (pa_cons (pv 1) pa_nil)))))
 (pss_one ps_never)
 pss_nil)
 (pss_one (ps_ret (pe_n (c_Cell T) hr (by decide) rfl (pa_cons (pv 0) (pa_cons (pe_callB (cr_sum rfl) rfl T.b_sum (by decide +kernel) (pa_cons (pe_lc (own := [("letter", 2)]) (g := gName 2) rfl sc_Values_cell.nd (pi_str (pv 1)) (blkOk_by (own := [("letter", 2)]) (N := N_Values_cell) (sc := defScope (inClass (topS 21) 3)) (by decide +kernel)) (fun _ _ _ _ _ => (pg_name (i := 2) sc_Values_cell.nd rfl (by first | exact .inl rfl | exact .inr rfl))) (fun _ _ _ _ _ => pts_nil) (fun _ _ _ _ _ => (pe_op op_shl pe_int (pe_index (pe_fldK (K := K) rfl (pv 0) rfl) (pv 2))))) pa_nil)) pa_nil)))))), ?_⟩
  try dsimp only [cxOf]
  obtain ⟨a, ls, n, rfl, ⟨da, ha⟩, ok, hn, q⟩ := h
  have l4 := ok.l4
  have sl := sub_len ls n
  walk_at "go"
  refine ⟨ls, sub ls n, rfl, by omega, fun H1 e1 => ?_⟩
  rw [decide_eq_true (⟨sub_nodup ok.nd, fun c hc => sub_mem hc⟩ : (sub ls n).Nodup ∧ ∀ c ∈ sub ls n, c ∈ ls)]
  walk_at "go"
  refine g_lcV walk_str (fun _ => true) (fun i => .int ((2 ^ ls.idxOf ((sub ls n).getD i 0) : Nat) : Int)) (fun _ _ => trivial) (by rw [st_size]; omega) (fun i y H2 H3 hi e12 z => ?_) fun D H2 hD e hl => ?_
  · obtain ⟨rfl, c, hc, rfl⟩ := z
    have e2 := e1.tr e12
    have hm : c ∈ ls := sub_mem (List.mem_of_getElem? (str_item hc).2)
    rw [(str_item hc).1]
    refine ⟨Ex.rfl', fun Yes No hy _ => ?_⟩
    walk_at "go"
    refine g_idx (c := c) (ls := ls) hm ?_
    have hi : ls.idxOf c < ls.length := List.idxOf_lt_length_iff.mpr hm
    walk_at "go"
    rw [shl_n]
    exact hy rfl _ Ex.rfl'
  · rw [st_size] at hl
    have hl := hl.trans (congrArg (fun z => some (HO.lst z)) (given_map (sub ls n) 0 fun c => V.int ((2 ^ ls.idxOf c : Nat) : Int)))
    walk_at "go"
    refine g_sum (ns := (sub ls n).map fun c => ((2 ^ ls.idxOf c : Nat) : Int)) (hl.trans (by rw [List.map_map]; rfl)) ?_
    rw [num_sum, num_sub ok.nd hn]
    walk_at "go"
    have ex := e1.tr e
    refine mkC ⟨da, ex _ _ ha⟩ ok hn fun x H3 e3 _ cx => ?_
    walk_at "go"
    exact q x H3 (ex.tr e3) cx
theorem c_Values_cell (T : HD K mg) : Mth P w K mg base (He.ga K "Values") "cell" 3 (spVCell K) := by
  obtain ⟨fd, F⟩ := T.fnd 6 rfl
  exact ⟨_, fd, ["self", "letters"], T.cls_Values, T.me_Values_cell, ok_Values_cell T F, F.bindsN fun _ _ _ _ _ _ us hl => match us, hl with | [_, _], _ => rfl, fnIn_of F⟩
def spCLike (K : PySem.W.Frag) : Sp := fun vs H Q _ => ∃ (a b va vb : Addr) (ls : List Nat) (n m : Nat), vs = [.ref a, .ref b] ∧ CellAt K H a va ls n ∧ CellAt K H b vb ls m ∧ Q .non H
abbrev N_Cell_need_like : List Str := ["self", "other"]
theorem sc_Cell_need_like : FnScope N_Cell_need_like ["self", "other"] (defScope (inClass (topS 20) 1)) := ⟨rfl, rfl, rfl, by decide +kernel, rfl, by decide +kernel, by decide +kernel⟩
theorem ok_Cell_need_like {f : Addr} {fd : FuncData} (T : HD K mg) (F : FunD K "need_like" "Cell.need_like" (defArgs (inClass (topS 20) 1)) (defBody (inClass (topS 20) 1)) (defScope (inClass (topS 20) 1)) [] [] f fd) : FnOk P w K mg base (L2.CX P w) 2 f fd ["self", "other"] (spCLike K) := by
  refine F.ok sc_Cell_need_like (fun vs H Q E h => by obtain ⟨_, _, _, _, _, _, _, rfl, _⟩ := h; rfl) (fun cdv A outer s H vs Q E hr h => ?_)
  refine ⟨_, (pss_one (ps_if (pt_not (pt_cmpR (op_eqO (c_Values_eq T) hr (by decide)) (pe_fld (pv 0) rfl) (pe_fld (pv 1) rfl) (nomark _)))
 (pss_one ps_never)
 pss_nil)), ?_⟩
  try dsimp only [cxOf]
  obtain ⟨a, b, va, vb, ls, n, m, rfl, ⟨⟨da, ha⟩, ⟨d1, v1⟩, _⟩, ⟨⟨db, hb⟩, ⟨d2, v2⟩, _⟩, q⟩ := h
  walk_at "go"
  refine g_eqO v1 v2 T.nf_Values_Values ⟨va, vb, ls, ls, rfl, ⟨_, v1⟩, ⟨_, v2⟩, ?_⟩
  rw [decide_eq_true (rfl : ls = ls)]
  walk_at "go"
  exact q
theorem c_Cell_need_like (T : HD K mg) : Mth P w K mg base (He.ga K "Cell") "need_like" 2 (spCLike K) := by
  obtain ⟨fd, F⟩ := T.fnd 7 rfl
  exact ⟨_, fd, ["self", "other"], T.cls_Cell, T.me_Cell_need_like, ok_Cell_need_like T F, F.bindsN fun _ _ _ _ _ _ us hl => match us, hl with | [_, _], _ => rfl, fnIn_of F⟩
def spCWithin (K : PySem.W.Frag) : Sp := fun vs H Q _ => ∃ (a b va vb : Addr) (ls : List Nat) (n m : Nat), vs = [.ref a, .ref b] ∧ CellAt K H a va ls n ∧ CellAt K H b vb ls m ∧ Q (.bl (decide (n &&& m = n))) H
abbrev N_Cell_within : List Str := ["self", "other"]
theorem sc_Cell_within : FnScope N_Cell_within ["self", "other"] (defScope (inClass (topS 20) 3)) := ⟨rfl, rfl, rfl, by decide +kernel, rfl, by decide +kernel, by decide +kernel⟩
theorem ok_Cell_within {f : Addr} {fd : FuncData} (T : HD K mg) (F : FunD K "within" "Cell.within" (defArgs (inClass (topS 20) 3)) (defBody (inClass (topS 20) 3)) (defScope (inClass (topS 20) 3)) [] [] f fd) : FnOk P w K mg base (L2.CX P w) 3 f fd ["self", "other"] (spCWithin K) := by
  refine F.ok sc_Cell_within (fun vs H Q E h => by obtain ⟨_, _, _, _, _, _, _, rfl, _⟩ := h; rfl) (fun cdv A outer s H vs Q E hr h => ?_)
  refine ⟨_, (pss_cons (ps_expr (pe_m (c_Cell_need_like T) hr (by decide) (pv 0) (pa_cons (pv 1) pa_nil)))
 (pss_one (ps_ret (pe_cmpR op_eq (pe_op op_and (pe_fld (pv 0) rfl) (pe_fld (pv 1) rfl)) (pe_fld (pv 0) rfl) (nomark _))))), ?_⟩
  try dsimp only [cxOf]
  obtain ⟨a, b, va, vb, ls, n, m, rfl, ca, cb, q⟩ := h
  obtain ⟨⟨da, ha⟩, ⟨d1, v1⟩, _⟩ := id ca
  obtain ⟨⟨db, hb⟩, ⟨d2, v2⟩, _⟩ := id cb
  walk_at "go"
  refine g_mt ha rfl ?_
  walk_at "go"
  refine ⟨a, b, va, vb, ls, n, m, rfl, ca, cb, ?_⟩
  walk_at "go"
  rw [and_n, dvn]
  exact q
theorem c_Cell_within (T : HD K mg) : Mth P w K mg base (He.ga K "Cell") "within" 3 (spCWithin K) := by
  obtain ⟨fd, F⟩ := T.fnd 8 rfl
  exact ⟨_, fd, ["self", "other"], T.cls_Cell, T.me_Cell_within, ok_Cell_within T F, F.bindsN fun _ _ _ _ _ _ us hl => match us, hl with | [_, _], _ => rfl, fnIn_of F⟩
def spCOr (K : PySem.W.Frag) : Sp := fun vs H Q _ => ∃ (a b va vb : Addr) (ls : List Nat) (n m : Nat), vs = [.ref a, .ref b] ∧ OkL ls ∧ CellAt K H a va ls n ∧ CellAt K H b vb ls m ∧ ∀ x H', Ex H H' → H x = none → CellAt K H' x va ls (n ||| m) → Q (.ref x) H'
abbrev N_Cell_or : List Str := ["self", "other"]
theorem sc_Cell_or : FnScope N_Cell_or ["self", "other"] (defScope (inClass (topS 20) 5)) := ⟨rfl, rfl, rfl, by decide +kernel, rfl, by decide +kernel, by decide +kernel⟩
theorem ok_Cell_or {f : Addr} {fd : FuncData} (T : HD K mg) (F : FunD K "__or__" "Cell.__or__" (defArgs (inClass (topS 20) 5)) (defBody (inClass (topS 20) 5)) (defScope (inClass (topS 20) 5)) [] [] f fd) : FnOk P w K mg base (L2.CX P w) 3 f fd ["self", "other"] (spCOr K) := by
  refine F.ok sc_Cell_or (fun vs H Q E h => by obtain ⟨_, _, _, _, _, _, _, rfl, _⟩ := h; rfl) (fun cdv A outer s H vs Q E hr h => ?_)
  refine ⟨_, (pss_cons (ps_expr (pe_m (c_Cell_need_like T) hr (by decide) (pv 0) (pa_cons (pv 1) pa_nil)))
 (pss_one (ps_ret (pe_n (c_Cell T) hr (by decide) rfl (pa_cons (pe_fld (pv 0) rfl) (pa_cons (pe_op op_or (pe_fld (pv 0) rfl) (pe_fld (pv 1) rfl)) pa_nil)))))), ?_⟩
  try dsimp only [cxOf]
  obtain ⟨a, b, va, vb, ls, n, m, rfl, ok, ca, cb, q⟩ := h
  obtain ⟨⟨da, ha⟩, ⟨d1, v1⟩, hn⟩ := id ca
  obtain ⟨⟨db, hb⟩, ⟨d2, v2⟩, hm⟩ := id cb
  walk_at "go"
  refine g_mt ha rfl ?_
  walk_at "go"
  refine ⟨a, b, va, vb, ls, n, m, rfl, ca, cb, ?_⟩
  walk_at "go"
  rw [or_n]
  refine mkC ⟨d1, v1⟩ ok (Nat.or_lt_two_pow hn hm) fun x H2 e hx cx => ?_
  walk_at "go"
  exact q x H2 e hx cx
theorem c_Cell_or (T : HD K mg) : Mth P w K mg base (He.ga K "Cell") "__or__" 3 (spCOr K) := by
  obtain ⟨fd, F⟩ := T.fnd 9 rfl
  exact ⟨_, fd, ["self", "other"], T.cls_Cell, T.me_Cell_or, ok_Cell_or T F, F.bindsN fun _ _ _ _ _ _ us hl => match us, hl with | [_, _], _ => rfl, fnIn_of F⟩
def spCHas (K : PySem.W.Frag) : Sp := fun vs H Q _ => ∃ (a va : Addr) (ls : List Nat) (n c : Nat), vs = [.ref a, .str (sgn c)] ∧ CellAt K H a va ls n ∧ Q (.bl (decide (c ∈ sub ls n))) H
abbrev N_Cell_contains : List Str := ["self", "letter"]
theorem sc_Cell_contains : FnScope N_Cell_contains ["self", "letter"] (defScope (inClass (topS 20) 10)) := ⟨rfl, rfl, rfl, by decide +kernel, rfl, by decide +kernel, by decide +kernel⟩
theorem ok_Cell_contains {f : Addr} {fd : FuncData} (T : HD K mg) (F : FunD K "__contains__" "Cell.__contains__" (defArgs (inClass (topS 20) 10)) (defBody (inClass (topS 20) 10)) (defScope (inClass (topS 20) 10)) [] [] f fd) : FnOk P w K mg base (L2.CX P w) 1 f fd ["self", "letter"] (spCHas K) := by
  refine F.ok sc_Cell_contains (fun vs H Q E h => by obtain ⟨_, _, _, _, _, rfl, _⟩ := h; rfl) (fun cdv A outer s H vs Q E hr h => ?_)
  refine ⟨_, (pss_one (ps_ret (pe_and (pe_callB call_isi rfl T.b_isinstance (by decide +kernel) (pa_cons (pv 1) (pa_cons (pe_bltn (v := .ty "str") (u := .type "str") rfl T.b_str (by decide +kernel) rfl) pa_nil))) (pe_and (pe_cmpR op_eq (pe_callB call_lenT rfl T.b_len PySem.boot_len (pa_cons (pv 1) pa_nil)) pe_int (nomark _)) (pe_one (pe_cmpR op_insG (pv 1) (pe_fld (pv 0) rfl) rfl)))))), ?_⟩
  try dsimp only [cxOf]
  obtain ⟨a, va, ls, n, c, rfl, ⟨⟨da, ha⟩, ⟨d1, v1⟩, hn⟩, q⟩ := h
  walk_at "go"
  refine g_lenT (by show 1 ≤ 100000; decide) ?_
  walk_at "go"
  rw [show ((sgn c).length : Int) = 1 from rfl, decide_eq_true (rfl : V.int 1 = V.int 1)]
  walk_at "go"
  refine g_ins (k := c) (z := st (sub ls n)) ?_
  rw [st_list]
  walk_at "go"
  exact q
theorem c_Cell_contains (T : HD K mg) : Mth P w K mg base (He.ga K "Cell") "__contains__" 1 (spCHas K) := by
  obtain ⟨fd, F⟩ := T.fnd 10 rfl
  exact ⟨_, fd, ["self", "letter"], T.cls_Cell, T.me_Cell_contains, ok_Cell_contains T F, F.bindsN fun _ _ _ _ _ _ us hl => match us, hl with | [_, _], _ => rfl, fnIn_of F⟩
def spCBool (K : PySem.W.Frag) : Sp := fun vs H Q _ => ∃ (a va : Addr) (ls : List Nat) (n : Nat), vs = [.ref a] ∧ OkL ls ∧ CellAt K H a va ls n ∧ Q (.bl (decide (n ≠ 0))) H
abbrev N_Cell_bool : List Str := ["self"]
theorem sc_Cell_bool : FnScope N_Cell_bool ["self"] (defScope (inClass (topS 20) 12)) := ⟨rfl, rfl, rfl, by decide +kernel, rfl, by decide +kernel, by decide +kernel⟩
theorem ok_Cell_bool {f : Addr} {fd : FuncData} (T : HD K mg) (F : FunD K "__bool__" "Cell.__bool__" (defArgs (inClass (topS 20) 12)) (defBody (inClass (topS 20) 12)) (defScope (inClass (topS 20) 12)) [] [] f fd) : FnOk P w K mg base (L2.CX P w) 1 f fd ["self"] (spCBool K) := by
  refine F.ok sc_Cell_bool (fun vs H Q E h => by obtain ⟨_, _, _, _, rfl, _⟩ := h; rfl) (fun cdv A outer s H vs Q E hr h => ?_)
  refine ⟨_, (pss_one (ps_ret (pe_callTy call_boolT rfl T.b_bool (by decide +kernel) (pa_cons (pe_fld (pv 0) rfl) pa_nil)))), ?_⟩
  try dsimp only [cxOf]
  obtain ⟨a, va, ls, n, rfl, ok, ⟨⟨da, ha⟩, ⟨d1, v1⟩, hn⟩, q⟩ := h
  have l4 := ok.l4
  have sl := sub_len ls n
  walk_at "go"
  refine g_boolT (by rw [st_len]; omega) ?_
  rw [st_len, show decide ((sub ls n).length ≠ 0) = decide (n ≠ 0) from decide_eq_decide.mpr (not_congr (List.length_eq_zero_iff.trans (sub_nil hn)))]
  exact q
theorem c_Cell_bool (T : HD K mg) : Mth P w K mg base (He.ga K "Cell") "__bool__" 1 (spCBool K) := by
  obtain ⟨fd, F⟩ := T.fnd 11 rfl
  exact ⟨_, fd, ["self"], T.cls_Cell, T.me_Cell_bool, ok_Cell_bool T F, F.bindsN fun _ _ _ _ _ _ us hl => match us, hl with | [_], _ => rfl, fnIn_of F⟩
def spTold (K : PySem.W.Frag) : Sp := fun vs H Q _ => ∃ (a : Addr) (ls : List Nat), ValsAt K H a ls ∧ OkL ls ∧
  ((∃ (b va : Addr) (n : Nat), vs = [.ref a, .ref b] ∧ CellAt K H b va ls n ∧ Q (.ref b) H) ∨
   (∃ n : Nat, vs = [.ref a, .str (st (sub ls n))] ∧ n < 2 ^ ls.length ∧ ∀ x H', Ex H H' → CellAt K H' x a ls n → Q (.ref x) H'))
abbrev N_cell_told : List Str := ["values", "thing"]
theorem sc_cell_told : FnScope N_cell_told ["values", "thing"] (defScope (topS 22)) := ⟨rfl, rfl, rfl, by decide +kernel, rfl, by decide +kernel, by decide +kernel⟩
theorem ok_cell_told {f : Addr} {fd : FuncData} (T : HD K mg) (F : FunD K "cell_told" "cell_told" (defArgs (topS 22)) (defBody (topS 22)) (defScope (topS 22)) [] [] f fd) : FnOk P w K mg base (L2.CX P w) 4 f fd ["values", "thing"] (spTold K) := by
  refine F.ok sc_cell_told (fun vs H Q E h => by obtain ⟨_, _, _, _, h⟩ := h; rcases h with ⟨_, _, _, rfl, _⟩ | ⟨_, rfl, _⟩ <;> rfl) (fun cdv A outer s H vs Q E hr h => ?_)
  refine ⟨_, (pss_cons (ps_if (pt_val (pe_callB call_isi rfl T.b_isinstance (by decide +kernel) (pa_cons (pv 1) (pa_cons (pe_glob (v := .ref (He.ga _ "Cell")) rfl T.g_Cell rfl) pa_nil))))
 (pss_one (ps_ret (pe_ifExp (pt_cmpR (op_eqO (c_Values_eq T) hr (by decide)) (pe_fld (pv 1) rfl) (pv 0) (nomark _)) (pv 1) pe_non)))
 pss_nil)
 (pss_one (ps_ret (pe_ifExp (pt_val (pe_g (c_is_cell_string T) hr (by decide) rfl (pa_cons (pe_fld (pv 0) rfl) (pa_cons (pv 1) pa_nil)))) (pe_m (c_Values_cell T) hr (by decide) (pv 0) (pa_cons (pv 1) pa_nil)) pe_non)))), ?_⟩
  try dsimp only [cxOf]
  obtain ⟨a, ls, ⟨da, ha⟩, ok, h⟩ := h
  rcases h with ⟨b, va, n, rfl, ⟨⟨db, hb⟩, ⟨d1, v1⟩, hn⟩, q⟩ | ⟨n, rfl, hn, q⟩
  · walk_at "go"
    refine isi_o hb T.cls_Cell T.ins_Cell (.own _) T.kit_Cell_Cell ?_
    walk_at "go"
    refine g_eqO v1 ha T.nf_Values_Values ⟨va, a, ls, ls, rfl, ⟨_, v1⟩, ⟨_, ha⟩, ?_⟩
    rw [decide_eq_true (rfl : ls = ls)]
    walk_at "go"
    exact q
  · have l4 := ok.l4
    have sl := sub_len ls n
    walk_at "go"
    refine g_isi (b := false) (.own _) (.base (.str _)) T.kit_str_Cell ?_
    walk_at "go"
    refine ⟨ls, sub ls n, rfl, by omega, fun H1 e1 => ?_⟩
    rw [decide_eq_true (⟨sub_nodup ok.nd, fun c hc => sub_mem hc⟩ : (sub ls n).Nodup ∧ ∀ c ∈ sub ls n, c ∈ ls)]
    walk_at "go"
    refine g_mt (e1 _ _ ha) rfl ?_
    walk_at "go"
    refine ⟨a, ls, n, rfl, ⟨da, e1 _ _ ha⟩, ok, hn, fun x H2 e2 cx => ?_⟩
    walk_at "go"
    exact q x H2 (e1.tr e2) cx
theorem c_cell_told (T : HD K mg) : Gbl P w K mg base "cell_told" 4 (spTold K) := by
  obtain ⟨fd, F⟩ := T.fnd 12 rfl
  exact ⟨_, fd, ["values", "thing"], ok_cell_told T F, T.g_cell_told, F.kp, F.bindsN fun _ _ _ _ _ _ us hl => match us, hl with | [_, _], _ => rfl⟩
def spIndex : Sp := fun vs H Q _ => ∃ (k m : Int), vs = [.int k, .int m] ∧ Q (.bl (decide (0 ≤ k ∧ k < m))) H
abbrev N_is_index : List Str := ["thing", "many"]
theorem sc_is_index : FnScope N_is_index ["thing", "many"] (defScope (topS 25)) := ⟨rfl, rfl, rfl, by decide +kernel, rfl, by decide +kernel, by decide +kernel⟩
theorem ok_is_index {f : Addr} {fd : FuncData} (T : HD K mg) (F : FunD K "is_index" "is_index" (defArgs (topS 25)) (defBody (topS 25)) (defScope (topS 25)) [] [] f fd) : FnOk P w K mg base (L2.CX P w) 1 f fd ["thing", "many"] spIndex := by
  refine F.ok sc_is_index (fun vs H Q E h => by obtain ⟨_, _, rfl, _⟩ := h; rfl) (fun cdv A outer s H vs Q E hr h => ?_)
  refine ⟨_, (pss_one (ps_ret (pe_and (pe_callB call_isi rfl T.b_isinstance (by decide +kernel) (pa_cons (pv 0) (pa_cons (pe_bltn (v := .ty "int") (u := .type "int") rfl T.b_int (by decide +kernel) rfl) pa_nil))) (pe_and (pe_not (pe_callB call_isi rfl T.b_isinstance (by decide +kernel) (pa_cons (pv 0) (pa_cons (pe_bltn (v := .ty "bool") (u := .type "bool") rfl T.b_bool (by decide +kernel) rfl) pa_nil)))) (pe_one (pe_chain op_le op_lt pe_int (pv 0) (pv 1))))))), ?_⟩
  try dsimp only [cxOf]
  obtain ⟨k, m, rfl, q⟩ := h
  walk_at "go"
  refine if_split (fun h1 => ?_) (fun h1 => ?_)
  · walk_at "go"
    rw [show decide (0 ≤ k ∧ k < m) = decide (k < m) from decide_eq_decide.mpr (by omega)] at q
    exact q
  · walk_at "go"
    rw [decide_eq_false (by omega)] at q
    exact q
theorem c_is_index (T : HD K mg) : Gbl P w K mg base "is_index" 1 spIndex := by
  obtain ⟨fd, F⟩ := T.fnd 13 rfl
  exact ⟨_, fd, ["thing", "many"], ok_is_index T F, T.g_is_index, F.kp, F.bindsN fun _ _ _ _ _ _ us hl => match us, hl with | [_, _], _ => rfl⟩
def spWhole : Sp := fun vs H Q _ => ∃ (k lo hi : Int), vs = [.int k, .int lo, .int hi] ∧ Q (.bl (decide (lo ≤ k ∧ k ≤ hi))) H
abbrev N_is_whole : List Str := ["thing", "least", "most"]
theorem sc_is_whole : FnScope N_is_whole ["thing", "least", "most"] (defScope (topS 15)) := ⟨rfl, rfl, rfl, by decide +kernel, rfl, by decide +kernel, by decide +kernel⟩
theorem ok_is_whole {f : Addr} {fd : FuncData} (T : HD K mg) (F : FunD K "is_whole" "is_whole" (defArgs (topS 15)) (defBody (topS 15)) (defScope (topS 15)) [] [] f fd) : FnOk P w K mg base (L2.CX P w) 1 f fd ["thing", "least", "most"] spWhole := by
  refine F.ok sc_is_whole (fun vs H Q E h => by obtain ⟨_, _, _, rfl, _⟩ := h; rfl) (fun cdv A outer s H vs Q E hr h => ?_)
  refine ⟨_, (pss_one (ps_ret (pe_and (pe_callB call_isi rfl T.b_isinstance (by decide +kernel) (pa_cons (pv 0) (pa_cons (pe_bltn (v := .ty "int") (u := .type "int") rfl T.b_int (by decide +kernel) rfl) pa_nil))) (pe_and (pe_not (pe_callB call_isi rfl T.b_isinstance (by decide +kernel) (pa_cons (pv 0) (pa_cons (pe_bltn (v := .ty "bool") (u := .type "bool") rfl T.b_bool (by decide +kernel) rfl) pa_nil)))) (pe_one (pe_chain op_le op_le (pv 1) (pv 0) (pv 2))))))), ?_⟩
  try dsimp only [cxOf]
  obtain ⟨k, lo, hi, rfl, q⟩ := h
  walk_at "go"
  refine if_split (fun h1 => ?_) (fun h1 => ?_)
  · walk_at "go"
    rw [show decide (lo ≤ k ∧ k ≤ hi) = decide (k ≤ hi) from decide_eq_decide.mpr (by omega)] at q
    exact q
  · walk_at "go"
    rw [decide_eq_false (by omega)] at q
    exact q
theorem c_is_whole (T : HD K mg) : Gbl P w K mg base "is_whole" 1 spWhole := by
  obtain ⟨fd, F⟩ := T.fnd 14 rfl
  exact ⟨_, fd, ["thing", "least", "most"], ok_is_whole T F, T.g_is_whole, F.kp, F.bindsN fun _ _ _ _ _ _ us hl => match us, hl with | [_, _, _], _ => rfl⟩
theorem told_of {K : PySem.W.Frag} {H : Hp} {a : Addr} {ls : List Nat} {x : V} {n : Nat} {Q : VK} {E : XK} (v : ValsAt K H a ls) (ok : OkL ls) (t : Tells K H ls x n) (q : ∀ b H', Ex H H' → CellOf K H' ls b n → Q (.ref b) H') : spTold K [.ref a, x] H Q E := by
  refine ⟨a, ls, v, ok, ?_⟩
  rcases t with ⟨b, rfl, va, z⟩ | ⟨rfl, z⟩
  · exact .inl ⟨b, va, n, rfl, z, q b H Ex.rfl' ⟨va, z⟩⟩
  · exact .inr ⟨n, rfl, z, fun x H' e c => q x H' e ⟨a, c⟩⟩
def TellsAll (K : PySem.W.Frag) (H : Hp) (ls : List Nat) (xs : List V) (ns : List Nat) : Prop := xs.length = ns.length ∧ ∀ (i : Nat) x n, xs[i]? = some x → ns[i]? = some n → Tells K H ls x n ∧ n ≠ 0
theorem TellsAll.kp {K : PySem.W.Frag} {H H' : Hp} {ls : List Nat} {xs : List V} {ns : List Nat} (e : Kept H H') (h : TellsAll K H ls xs ns) : TellsAll K H' ls xs ns := ⟨h.1, fun i x n z1 z2 => ⟨(h.2 i x n z1 z2).1.kp e, (h.2 i x n z1 z2).2⟩⟩
theorem TellsAll.get {K : PySem.W.Frag} {H : Hp} {ls : List Nat} {xs : List V} {ns : List Nat} (h : TellsAll K H ls xs ns) {i : Nat} {x : V} (z : xs[i]? = some x) : ns[i]? = some (ns.getD i 0) ∧ Tells K H ls x (ns.getD i 0) ∧ ns.getD i 0 ≠ 0 := by
  have hi : i < ns.length := h.1 ▸ (List.getElem?_eq_some_iff.mp z).1
  have e : ns[i]? = some (ns.getD i 0) := by simp [List.getD, hi]
  exact ⟨e, h.2 i x _ z e⟩
def spPattern (K : PySem.W.Frag) : Sp := fun vs H Q _ => ∃ (va p : Addr) (ls : List Nat) (xs : List V) (ns : List Nat), vs = [.ref va, .ref p] ∧ ValsAt K H va ls ∧ OkL ls ∧ H p = some (.lst xs) ∧ TellsAll K H ls xs ns ∧ 1 ≤ ns.length ∧ ns.length ≤ 4 ∧
  ∀ (tp : Addr) (as : List Addr) H', Ex H H' → H' tp = some (.tup (as.map V.ref)) → Cells K H' ls as ns → Q (.ref tp) H'
abbrev N_pattern_of : List Str := ["values", "pattern", "found", "thing", "cell"]
theorem sc_pattern_of : FnScope N_pattern_of ["values", "pattern"] (defScope (topS 30)) := ⟨rfl, rfl, rfl, by decide +kernel, rfl, by decide +kernel, by decide +kernel⟩
theorem ok_pattern_of {f : Addr} {fd : FuncData} (T : HD K mg) (F : FunD K "pattern_of" "pattern_of" (defArgs (topS 30)) (defBody (topS 30)) (defScope (topS 30)) [] [] f fd) : FnOk P w K mg base (L2.CX P w) 5 f fd ["values", "pattern"] (spPattern K) := by
  refine F.ok sc_pattern_of (fun vs H Q E h => by obtain ⟨_, _, _, _, _, rfl, _⟩ := h; rfl) (fun cdv A outer s H vs Q E hr h => ?_)
  refine ⟨_, (pss_cons (ps_if (PW.pt (pw_or (pt_not (pt_val (pe_callB call_isiT rfl T.b_isinstance (by decide +kernel) (pa_cons (pv 1) (pa_cons (pe_tup (pa_cons (pe_bltn (v := .ty "list") (u := .type "list") rfl T.b_list (by decide +kernel) rfl) (pa_cons (pe_bltn (v := .ty "tuple") (u := .type "tuple") rfl T.b_tuple (by decide +kernel) rfl) pa_nil))) pa_nil))))) (pw_or1 (pt_not (pt_chain op_le op_le pe_int (pe_callB call_lenG rfl T.b_len PySem.boot_len (pa_cons (pv 1) pa_nil)) (pe_glob (v := .int 4) rfl T.g_MOST_CELLS ⟨_, rfl⟩))))))
 (pss_one ps_never)
 pss_nil)
 (pss_cons (ps_setLc (i := 2) (own := [("thing", 3)]) (g := gName 3) rfl sc_pattern_of.nd rfl rfl (sw_true rfl rfl rfl (by decide +kernel)) (pi_list (pv 1)) (blkOk_by (own := [("thing", 3)]) (N := N_pattern_of) (sc := defScope (topS 30)) (by decide +kernel)) (fun _ _ _ _ _ => (pg_name (i := 3) sc_pattern_of.nd rfl (by first | exact .inl rfl | exact .inr rfl))) (fun _ _ _ _ _ => pts_nil) (fun _ _ _ _ _ => (pe_g (c_cell_told T) hr (by decide) rfl (pa_cons (pv 0) (pa_cons (pv 3) pa_nil)))))
 (pss_cons (ps_if (pt_val (pe_callB (cr_any rfl) rfl T.b_any (by decide +kernel) (pa_cons (pe_lc (own := [("cell", 4)]) (g := gName 4) rfl sc_pattern_of.nd (pi_list (pv 2)) (blkOk_by (own := [("cell", 4)]) (N := N_pattern_of) (sc := defScope (topS 30)) (by decide +kernel)) (fun _ _ _ _ _ => (pg_name (i := 4) sc_pattern_of.nd rfl (by first | exact .inl rfl | exact .inr rfl))) (fun _ _ _ _ _ => pts_nil) (fun _ _ _ _ _ => (pe_or (pe_cmpR op_isNG (pv 4) pe_non (nomark _)) (pe_one (pe_notR (pv 4) (tru_O (c_Cell_bool T) hr (by decide))))))) pa_nil)))
 (pss_one ps_never)
 pss_nil)
 (pss_one (ps_ret (pe_callTy call_tupL rfl T.b_tuple (by decide +kernel) (pa_cons (pv 2) pa_nil))))))), ?_⟩
  try dsimp only [cxOf]
  obtain ⟨va, p, ls, xs, ns, rfl, v, ok, hp, ht, n1, n4, q⟩ := h
  have hl := ht.1
  walk_at "go"
  refine g_new (by decide) fun tp H1 _ e1 htp _ => ?_
  walk_at "go"
  refine isi_lt (e1 _ _ hp) htp ?_
  walk_at "go"
  refine g_len (sq_l (e1 _ _ hp)) ?_
  walk_at "go"
  refine if_dec (by omega) ?_
  walk_at "go"
  rw [decide_eq_true (show (xs.length : Int) ≤ 4 by omega)]
  walk_at "go"
  refine g_iL (sq_l (e1 _ _ hp)) ?_
  refine g_lcO walk_list (by omega) (fun i a H' => CellOf K H' ls a (ns.getD i 0)) (fun i a H1 H2 k c => c.kp k) (fun H' e => sq_l (e _ _ (e1 _ _ hp))) (fun i x H2 H3 hi e2 y Yes No hy => ?_) fun D as H2 hD e2 hDs al hc => ?_
  · obtain ⟨rfl, hx⟩ := y
    have g := ht.get hx
    walk_at "go"
    have ex := e1.tr e2
    refine told_of (v.ex ex) ok (g.2.1.kp ex.kept) fun b H4 e4 cb => ?_
    exact hy b H4 e4 cb
  · have ex := e1.tr e2
    have cs : Cells K H2 ls as ns := ⟨by omega, fun i a n z1 z2 => by
      have z := hc i a z1
      rwa [getD_of z2] at z⟩
    walk_at "go"
    refine g_iL (sq_l hDs) ?_
    refine g_lcV walk_list (fun _ => true) (fun i => .bl false) (fun H' e => sq_l (e _ _ hDs)) (by rw [List.length_map]; omega) (fun i x H3 H4 hi e3 y => ?_) fun D2 H3 hD2 e3 hl2 => ?_
    · obtain ⟨rfl, hx⟩ := y
      rw [List.getElem?_map] at hx
      obtain ⟨a, ha, rfl⟩ := Option.map_eq_some_iff.mp hx
      have hi2 : i < ns.length := by have := (List.getElem?_eq_some_iff.mp ha).1; omega
      have hn : ns[i]? = some (ns.getD i 0) := by simp [List.getD, hi2]
      obtain ⟨vb, cb⟩ := (cs.2 i a _ ha hn).kp e3.kept
      obtain ⟨⟨db, hb⟩, _⟩ := id cb
      have nz := (ht.get (List.getElem?_eq_getElem (by omega : i < xs.length))).2.2
      refine ⟨Ex.rfl', fun Yes No hy _ => ?_⟩
      walk_at "go"
      refine g_truO hb ⟨a, vb, ls, _, rfl, ok, cb, ?_⟩
      rw [decide_eq_true nz]
      walk_at "go"
      exact hy rfl _ Ex.rfl'
    · rw [List.length_map, show as.length = ns.length from cs.1] at hl2
      have hl2 := hl2.trans (congrArg (fun z => some (HO.lst z)) (given_mapB ns 0 fun _ => false))
      walk_at "go"
      refine g_any hl2 ?_
      rw [show (ns.map fun _ => false).any id = false by induction ns <;> simp_all]
      walk_at "go"
      refine g_tupL (e3 _ _ hDs) fun tp H4 _ e4 htp _ => ?_
      walk_at "go"
      exact q tp as H4 ((ex.tr e3).tr e4) htp (cs.kp (e3.tr e4).kept)
theorem c_pattern_of (T : HD K mg) : Gbl P w K mg base "pattern_of" 5 (spPattern K) := by
  obtain ⟨fd, F⟩ := T.fnd 15 rfl
  exact ⟨_, fd, ["values", "pattern"], ok_pattern_of T F, T.g_pattern_of, F.kp, F.bindsN fun _ _ _ _ _ _ us hl => match us, hl with | [_, _], _ => rfl⟩
theorem TellsAll.em {K : PySem.W.Frag} {H H' : Hp} {ls : List Nat} {xs : List V} {ns : List Nat} {C x dx : Addr} {fs : List (Str × V)} (n1 : C ≠ CC K) (n2 : C ≠ CV K) (hx : H x = some (.ins C dx fs)) (e : Ep x H H') (h : TellsAll K H ls xs ns) : TellsAll K H' ls xs ns := ⟨h.1, fun i y n z1 z2 => ⟨(h.2 i y n z1 z2).1.em n1 n2 hx e, (h.2 i y n z1 z2).2⟩⟩
def spRInit (K : PySem.W.Frag) : Sp := fun vs H Q _ => ∃ (x dx va p : Addr) (ls : List Nat) (xs : List V) (d : RD) (c : Nat), vs = [.ref x, .ref va, .ref p, .int (d.k : Int), .str (sgn c), .bl d.l, .bl d.r] ∧ H x = some (.ins (CR K) dx []) ∧ ValsAt K H va ls ∧ OkL ls ∧ H p = some (.lst xs) ∧ TellsAll K H ls xs d.ns ∧ 1 ≤ d.ns.length ∧ d.ns.length ≤ 4 ∧
  d.k < d.ns.length ∧ ls[d.j]? = some c ∧ d.ns.getD d.k 0 / 2 ^ d.j % 2 = 1 ∧ ∀ H', Ep x H H' → RuleAt K H' x ls d → Q .non H'
abbrev N_Rule_init : List Str := ["self", "values", "pattern", "at", "value", "left", "right", "cell"]
theorem sc_Rule_init : FnScope N_Rule_init ["self", "values", "pattern", "at", "value", "left", "right"] (defScope (inClass (topS 31) 1)) := ⟨rfl, rfl, rfl, by decide +kernel, rfl, by decide +kernel, by decide +kernel⟩
theorem ok_Rule_init {f : Addr} {fd : FuncData} (T : HD K mg) (F : FunD K "__init__" "Rule.__init__" (defArgs (inClass (topS 31) 1)) (defBody (inClass (topS 31) 1)) (defScope (inClass (topS 31) 1)) [] [("left", V.bl false), ("right", V.bl false)] f fd) : FnOk P w K mg base (L2.CX P w) 6 f fd ["self", "values", "pattern", "at", "value", "left", "right"] (spRInit K) := by
  refine F.ok sc_Rule_init (fun vs H Q E h => by obtain ⟨_, _, _, _, _, _, _, _, rfl, _⟩ := h; rfl) (fun cdv A outer s H vs Q E hr h => ?_)
  refine ⟨_, (pss_cons (ps_if (pt_not (pt_val (pe_callB call_isi rfl T.b_isinstance (by decide +kernel) (pa_cons (pv 1) (pa_cons (pe_glob (v := .ref (He.ga _ "Values")) rfl T.g_Values rfl) pa_nil)))))
 (pss_one ps_never)
 pss_nil)
 (pss_cons (ps_fld (pv 0) (pv 1) rfl)
 (pss_cons (ps_fld (pv 0) (pe_g (c_pattern_of T) hr (by decide) rfl (pa_cons (pv 1) (pa_cons (pv 2) pa_nil))) rfl)
 (pss_cons (ps_if (pt_not (pt_val (pe_g (c_is_index T) hr (by decide) rfl (pa_cons (pv 3) (pa_cons (pe_callB call_lenG rfl T.b_len PySem.boot_len (pa_cons (pe_fld (pv 0) rfl) pa_nil)) pa_nil)))))
 (pss_one ps_never)
 pss_nil)
 (pss_cons (ps_if (PW.pt (pw_or (pt_not (pt_val (pe_callB call_isi rfl T.b_isinstance (by decide +kernel) (pa_cons (pv 4) (pa_cons (pe_bltn (v := .ty "str") (u := .type "str") rfl T.b_str (by decide +kernel) rfl) pa_nil))))) (pw_or1 (pt_cmpR (op_ninO (c_Cell_contains T) hr (by decide)) (pv 4) (pe_ix ix_tup (pe_fld (pv 0) rfl) (pv 3) (fun _ _ => rfl)) rfl))))
 (pss_one ps_never)
 pss_nil)
 (pss_cons (ps_if (pt_not (pt_val (pe_callB call_isi rfl T.b_isinstance (by decide +kernel) (pa_cons (pv 5) (pa_cons (pe_bltn (v := .ty "bool") (u := .type "bool") rfl T.b_bool (by decide +kernel) rfl) pa_nil)))))
 (pss_one ps_never)
 pss_nil)
 (pss_cons (ps_if (pt_not (pt_val (pe_callB call_isi rfl T.b_isinstance (by decide +kernel) (pa_cons (pv 6) (pa_cons (pe_bltn (v := .ty "bool") (u := .type "bool") rfl T.b_bool (by decide +kernel) rfl) pa_nil)))))
 (pss_one ps_never)
 pss_nil)
 (pss_cons (ps_fld (pv 0) (pv 3) rfl)
 (pss_cons (ps_fld (pv 0) (pv 4) rfl)
 (pss_cons (ps_fld (pv 0) (pv 5) rfl)
 (pss_cons (ps_fld (pv 0) (pv 6) rfl)
 (pss_cons (ps_fld (pv 0) (pe_callTy call_tupL rfl T.b_tuple (by decide +kernel) (pa_cons (pe_lc (own := [("cell", 7)]) (g := gName 7) rfl sc_Rule_init.nd (pi_tup (pe_fld (pv 0) rfl)) (blkOk_by (own := [("cell", 7)]) (N := N_Rule_init) (sc := defScope (inClass (topS 31) 1)) (by decide +kernel)) (fun _ _ _ _ _ => (pg_name (i := 7) sc_Rule_init.nd rfl (by first | exact .inl rfl | exact .inr rfl))) (fun _ _ _ _ _ => pts_nil) (fun _ _ _ _ _ => (pe_fldK (K := K) rfl (pv 7) rfl))) pa_nil)) rfl)
 (pss_one (ps_fld (pv 0) (pe_fld (pe_m (c_Values_cell T) hr (by decide) (pv 1) (pa_cons (pv 4) pa_nil)) rfl) rfl)))))))))))))), ?_⟩
  try dsimp only [cxOf]
  obtain ⟨x, dx, va, p, ls, xs, d, c, rfl, hx, vv, ok, hp, ht, n1, n4, hk, hj, hbit, q⟩ := h
  obtain ⟨dv, hv⟩ := id vv
  have l4 := ok.l4
  walk_at "go"
  refine isi_o hv T.cls_Values T.ins_Values (.own _) T.kit_Values_Values ?_
  walk_at "go"
  refine ⟨va, p, ls, xs, d.ns, rfl, vv.em T.ne_Rule_Values hx Ep.rfl'.put, ok, (upd_ne (ne_lst hx hp)).trans hp, ht.em T.ne_Rule_Cell T.ne_Rule_Values hx Ep.rfl'.put, n1, n4, fun tp as H2 e2 htp cs => ?_⟩
  have hx2 := e2 _ _ upd_same
  have epx : Ep x H H2 := fun a u na z => e2 _ _ ((upd_ne na).trans z)
  walk_at "go"
  have ntp := ne_tup hx2 htp
  have htp3 : ∀ {o}, (upd H2 x o) tp = some (.tup (as.map V.ref)) := (upd_ne ntp).trans htp
  have cs3 : ∀ {o}, Cells K (upd H2 x o) ls as d.ns := cs.em T.ne_Rule_Cell T.ne_Rule_Values hx2 Ep.rfl'.put
  have v3 : ∀ {o}, ValsAt K (upd H2 x o) va ls := (vv.em T.ne_Rule_Values hx epx).em T.ne_Rule_Values hx2 Ep.rfl'.put
  walk_at "go"
  refine g_lenU (sq_t htp3) ?_
  walk_at "go"
  refine ⟨_, _, rfl, ?_⟩
  rw [decide_eq_true (show (0 : Int) ≤ d.k ∧ (d.k : Int) < ((as.map V.ref).length : Int) by rw [List.length_map, cs.1]; omega)]
  walk_at "go"
  obtain ⟨a, ha⟩ : ∃ a, as[d.k]? = some a := ⟨as[d.k]'(by have := cs.1; omega), by simp⟩
  have hn : d.ns[d.k]? = some (d.ns.getD d.k 0) := by simp [List.getD, hk]
  refine g_ixU (sq_t htp3) (atI_nat (j := d.k) (by rw [List.getElem?_map, ha]; rfl)) ?_
  obtain ⟨vb, cb⟩ := (cs3 (o := .ins (CR K) dx (putF "pattern" (.ref tp) (putF "alphabet" (.ref va) [])))).2 d.k a _ ha hn
  obtain ⟨⟨db, hb⟩, _⟩ := id cb
  refine g_inO hb ⟨a, vb, ls, _, c, rfl, cb, ?_⟩
  rw [decide_eq_true ((sub_bit hj ok.nd).mpr hbit)]
  walk_at "go"
  have tpE : ∀ H', Ep x H2 H' → H' tp = some (.tup (as.map V.ref)) := fun H' e => e _ _ ntp htp
  have cE : ∀ H', Ep x H2 H' → Cells K H' ls as d.ns := fun H' e => cs.em T.ne_Rule_Cell T.ne_Rule_Values hx2 e
  have vE : ∀ H', Ep x H2 H' → ValsAt K H' va ls := fun H' e => (vv.em T.ne_Rule_Values hx epx).em T.ne_Rule_Values hx2 e
  refine g_iU (sq_t (tpE _ (by repeat first | exact Ep.rfl' | refine Ep.put ?_))) ?_
  refine g_lcV walk_tup (fun _ => true) (fun i => .int ((d.ns.getD i 0 : Nat) : Int)) (fun H' e => sq_t (e _ _ (tpE _ (by repeat first | exact Ep.rfl' | refine Ep.put ?_)))) (by rw [List.length_map, cs.1]; omega) (fun i y H3 H4 hi e3 z => ?_) fun D H3 hD e3 hl => ?_
  · obtain ⟨rfl, hy⟩ := z
    rw [List.getElem?_map] at hy
    obtain ⟨a2, ha2, rfl⟩ := Option.map_eq_some_iff.mp hy
    have hi2 : i < d.ns.length := by have := (List.getElem?_eq_some_iff.mp ha2).1; have := cs.1; omega
    have hn2 : d.ns[i]? = some (d.ns.getD i 0) := by simp [List.getD, hi2]
    obtain ⟨v2, c2⟩ := ((cE _ (by repeat first | exact Ep.rfl' | refine Ep.put ?_)).2 i a2 _ ha2 hn2).kp e3.kept
    obtain ⟨⟨d2, hb2⟩, _⟩ := id c2
    refine ⟨Ex.rfl', fun Yes No hy _ => ?_⟩
    walk_at "go"
    exact hy rfl _ Ex.rfl'
  · rw [List.length_map, cs.1] at hl
    have hl := hl.trans (congrArg (fun z => some (HO.lst z)) (given_map d.ns 0 fun n => V.int (n : Int)))
    walk_at "go"
    refine g_tupL hl fun tn H4 htn0 e4 htn _ => ?_
    have e34 := e3.tr e4
    have hx4 := e34 _ _ upd_same
    have e4x : Ep x H2 H4 := Ep.tr (by repeat first | exact Ep.rfl' | refine Ep.put ?_) e34.ep
    have nva := ne_cls T.ne_Rule_Values hx hv
    have hvE : ∀ H', Ep x H2 H' → H' va = some (.ins (CV K) dv (vF ls)) := fun H' e => e _ _ nva (epx _ _ nva hv)
    have hjl : d.j < ls.length := (List.getElem?_eq_some_iff.mp hj).1
    walk_at "go"
    refine g_mt (hvE _ e4x.put) rfl ?_
    walk_at "go"
    refine ⟨va, ls, 2 ^ d.j, by rw [sub_one hj ok.nd]; rfl, vE _ e4x.put, ok, Nat.pow_lt_pow_right (by decide) hjl, fun y H6 e6 cy => ?_⟩
    obtain ⟨⟨dy, hy⟩, _⟩ := id cy
    have hx6 := e6 _ _ upd_same
    walk_at "go"
    have e6x : Ep x H2 H6 := (Ep.put e4x).tr e6.ep
    have ntn := ne_tup hx4 htn
    refine q _ ((epx.tr e6x).put) ⟨dx, va, tp, tn, as, c, ?_, vE _ e6x.put, tpE _ e6x.put, cE _ e6x.put, ?_, hj⟩
    · rw [upd_same]
      rfl
    · exact (upd_ne ntn).trans (e6 _ _ ((upd_ne ntn).trans htn))
theorem c_Rule (T : HD K mg) : MkrK P w K mg base "Rule" (He.ga K "Rule") 6 4 ["left", "right"] (spRInit K) := by
  obtain ⟨fd, F⟩ := T.fnd 16 rfl
  obtain ⟨mv, kb⟩ := F.kbinds0 (ps := ["self", "values", "pattern", "at", "value", "left", "right"]) 5 ["left", "right"] [] (fun us _ ws => us ++ ws) (fun z => nomatch z) (fun q z => nomatch z) (fun r1 _ r3 => r1.append r3) (fun D doc pm an cdv ct us mv ws l1 l2 l3 => match us, l1, ws, l3 with | [_, _, _, _, _], _, [_, _], _ => rfl)
  exact ⟨_, fd, ["self", "values", "pattern", "at", "value", "left", "right"], _, T.mk_Rule, ok_Rule_init T F, T.g_Rule, kb⟩
def spRNeed (K : PySem.W.Frag) : Sp := fun vs H Q _ => ∃ (a b : Addr) (ls : List Nat) (d : RD) (ms : List Nat), vs = [.ref a, .ref b] ∧ RuleAt K H a ls d ∧ LineAt K H b ls ms ∧ Q .non H
abbrev N_Rule_need_values : List Str := ["self", "line"]
theorem sc_Rule_need_values : FnScope N_Rule_need_values ["self", "line"] (defScope (inClass (topS 31) 3)) := ⟨rfl, rfl, rfl, by decide +kernel, rfl, by decide +kernel, by decide +kernel⟩
theorem ok_Rule_need_values {f : Addr} {fd : FuncData} (T : HD K mg) (F : FunD K "need_values" "Rule.need_values" (defArgs (inClass (topS 31) 3)) (defBody (inClass (topS 31) 3)) (defScope (inClass (topS 31) 3)) [] [] f fd) : FnOk P w K mg base (L2.CX P w) 2 f fd ["self", "line"] (spRNeed K) := by
  refine F.ok sc_Rule_need_values (fun vs H Q E h => by obtain ⟨_, _, _, _, _, rfl, _⟩ := h; rfl) (fun cdv A outer s H vs Q E hr h => ?_)
  refine ⟨_, (pss_one (ps_if (pt_not (pt_cmpR (op_eqO (c_Values_eq T) hr (by decide)) (pe_fld (pv 1) rfl) (pe_fld (pv 0) rfl) (nomark _)))
 (pss_one ps_never)
 pss_nil)), ?_⟩
  try dsimp only [cxOf]
  obtain ⟨a, b, ls, d, ms, rfl, ⟨dx, va, tp, tn, as, c, ha, ⟨dv, hv⟩, htp, cs, htn, hj⟩, ⟨dy, vb, rp, bs, hb, ⟨dw, hw⟩, hrp, ct⟩, q⟩ := h
  walk_at "go"
  refine g_eqO hw hv T.nf_Values_Values ⟨vb, va, ls, ls, rfl, ⟨_, hw⟩, ⟨_, hv⟩, ?_⟩
  rw [decide_eq_true (rfl : ls = ls)]
  walk_at "go"
  exact q
theorem c_Rule_need_values (T : HD K mg) : Mth P w K mg base (He.ga K "Rule") "need_values" 2 (spRNeed K) := by
  obtain ⟨fd, F⟩ := T.fnd 17 rfl
  exact ⟨_, fd, ["self", "line"], T.cls_Rule, T.me_Rule_need_values, ok_Rule_need_values T F, F.bindsN fun _ _ _ _ _ _ us hl => match us, hl with | [_, _], _ => rfl, fnIn_of F⟩
def HoldsAt (ns ms : List Nat) (b : Nat) : Prop := ∀ i ∈ List.range ns.length, ms.getD (b + i) 0 &&& ns.getD i 0 = ms.getD (b + i) 0
instance (ns ms : List Nat) (b : Nat) : Decidable (HoldsAt ns ms b) := by unfold HoldsAt; infer_instance
def spHolds (K : PySem.W.Frag) : Sp := fun vs H Q _ => ∃ (a t : Addr) (ls : List Nat) (d : RD) (ms : List Nat) (b : Nat), vs = [.ref a, .ref t, .int (b : Int)] ∧ RuleAt K H a ls d ∧ d.ns.length ≤ 4 ∧ H t = some (.tup (ms.map fun (n : Nat) => V.int (n : Int))) ∧ b + d.ns.length ≤ ms.length ∧
  ∀ H', Ex H H' → Q (.bl (decide (HoldsAt d.ns ms b))) H'
abbrev N_Rule_holds : List Str := ["self", "numbers", "begin", "k", "own"]
theorem sc_Rule_holds : FnScope N_Rule_holds ["self", "numbers", "begin"] (defScope (inClass (topS 31) 4)) := ⟨rfl, rfl, rfl, by decide +kernel, rfl, by decide +kernel, by decide +kernel⟩
theorem ok_Rule_holds {f : Addr} {fd : FuncData} (T : HD K mg) (F : FunD K "holds" "Rule.holds" (defArgs (inClass (topS 31) 4)) (defBody (inClass (topS 31) 4)) (defScope (inClass (topS 31) 4)) [] [] f fd) : FnOk P w K mg base (L2.CX P w) 1 f fd ["self", "numbers", "begin"] (spHolds K) := by
  refine F.ok sc_Rule_holds (fun vs H Q E h => by obtain ⟨_, _, _, _, _, _, rfl, _⟩ := h; rfl) (fun cdv A outer s H vs Q E hr h => ?_)
  refine ⟨_, (pss_one (ps_ret (pe_callB (cr_all rfl) rfl T.b_all (by decide +kernel) (pa_cons (pe_lc (own := [("k", 3), ("own", 4)]) (g := gTup K 2 (gCons (gName 3) (gCons (gName 4) gNil))) rfl sc_Rule_holds.nd (pi_enumU rfl T.b_enumerate (pa_cons (pe_fld (pv 0) rfl) pa_nil)) (blkOk_by (own := [("k", 3), ("own", 4)]) (N := N_Rule_holds) (sc := defScope (inClass (topS 31) 4)) (by decide +kernel)) (fun _ _ _ _ _ => (pg_tup rfl (pgs_cons (pg_name (i := 3) sc_Rule_holds.nd rfl (by first | exact .inl rfl | exact .inr rfl)) (pgs_cons (pg_name (i := 4) sc_Rule_holds.nd rfl (by first | exact .inl rfl | exact .inr rfl)) pgs_nil)))) (fun _ _ _ _ _ => pts_nil) (fun _ _ _ _ _ => (pe_cmpR op_eq (pe_op op_and (pe_ix (ix_tupK (K := K) rfl) (pv 1) (pe_op op_add (pv 2) (pv 3)) (fun _ _ => rfl)) (pe_un un_inv (pv 4))) pe_int (nomark _)))) pa_nil)))), ?_⟩
  try dsimp only [cxOf]
  obtain ⟨a, t, ls, d, ms, b, rfl, ⟨dx, va, tp, tn, as, c, ha, ⟨dv, hv⟩, htp, cs, htn, hj⟩, n4, ht, hb, q⟩ := h
  walk_at "go"
  refine g_iEU (sq_t htn) ?_
  refine g_lcV walk_enumU (fun _ => true) (fun i => .bl (decide (ms.getD (b + i) 0 &&& d.ns.getD i 0 = ms.getD (b + i) 0))) (fun H' e => sq_t (e _ _ htn)) (by rw [List.length_map]; omega) (fun i x H1 H2 hi e1 y => ?_) fun D H2 hD e hl => ?_
  · obtain ⟨T2, x2, y2, rfl, hT, rfl, hx2, hy2⟩ := y
    rw [List.length_map] at hi
    cases hx2
    obtain rfl : y2 = .int ((d.ns.getD i 0 : Nat) : Int) := by
      have hy2 : (d.ns.map fun (n : Nat) => V.int (n : Int))[i]? = some y2 := hy2
      rw [List.getElem?_map, List.getElem?_eq_getElem hi] at hy2
      rw [show d.ns.getD i 0 = d.ns[i] by simp [List.getD, hi]]
      exact (Option.some.inj hy2).symm
    refine ⟨Ex.nw hT, fun Yes No hy _ => ?_⟩
    have eT := e1.tr (Ex.nw (o := .tup [.int (i : Nat), .int ((d.ns.getD i 0 : Nat) : Int)]) hT)
    walk_at "go"
    refine g_gtup (sq_t upd_same) rfl ?_
    walk_at "go"
    have hi3 : b + i < ms.length := by omega
    refine g_ixU (v := .int ((ms.getD (b + i) 0 : Nat) : Int)) (sq_t (eT _ _ ht)) (show atI _ ((b : Int) + (i : Int)) = _ from ?_) ?_
    · rw [show (b : Int) + (i : Int) = ((b + i : Nat) : Int) by omega]
      exact atI_nat (j := b + i) (by rw [List.getElem?_map]; simp [List.getD, hi3])
    · walk_at "go"
      rw [andnot_n, show (0 : Int) = ((0 : Nat) : Int) from rfl, dvn, decide_eq_decide.mpr within_and]
      exact hy rfl _ Ex.rfl'
  · rw [List.length_map] at hl
    have hl := hl.trans (congrArg (fun z => some (HO.lst z)) (show given d.ns.length (fun _ => true) (fun i => .bl (decide (ms.getD (b + i) 0 &&& d.ns.getD i 0 = ms.getD (b + i) 0))) = ((List.range d.ns.length).map fun i => decide (ms.getD (b + i) 0 &&& d.ns.getD i 0 = ms.getD (b + i) 0)).map V.bl by
      unfold given
      rw [List.filter_eq_self.mpr (fun _ _ => rfl), List.map_map]
      rfl))
    walk_at "go"
    refine g_all hl ?_
    rw [all_dec]
    exact q H2 e
theorem c_Rule_holds (T : HD K mg) : Mth P w K mg base (He.ga K "Rule") "holds" 1 (spHolds K) := by
  obtain ⟨fd, F⟩ := T.fnd 18 rfl
  exact ⟨_, fd, ["self", "numbers", "begin"], T.cls_Rule, T.me_Rule_holds, ok_Rule_holds T F, F.bindsN fun _ _ _ _ _ _ us hl => match us, hl with | [_, _, _], _ => rfl, fnIn_of F⟩
def StrikesAt (d : RD) (ms : List Nat) (b : Nat) : Prop := ms.getD (b + d.k) 0 &&& 2 ^ d.j ≠ 0 ∧ HoldsAt d.ns ms b
instance (d : RD) (ms : List Nat) (b : Nat) : Decidable (StrikesAt d ms b) := by unfold StrikesAt; infer_instance
def spStrikes (K : PySem.W.Frag) : Sp := fun vs H Q _ => ∃ (a t : Addr) (ls : List Nat) (d : RD) (ms : List Nat) (b : Nat), vs = [.ref a, .ref t, .int (b : Int)] ∧ RuleAt K H a ls d ∧ d.ns.length ≤ 4 ∧ d.k < d.ns.length ∧ H t = some (.tup (ms.map fun (n : Nat) => V.int (n : Int))) ∧ b + d.ns.length ≤ ms.length ∧
  ∀ H', Ex H H' → Q (.bl (decide (StrikesAt d ms b))) H'
abbrev N_Rule_strikes_in : List Str := ["self", "numbers", "begin"]
theorem sc_Rule_strikes_in : FnScope N_Rule_strikes_in ["self", "numbers", "begin"] (defScope (inClass (topS 31) 5)) := ⟨rfl, rfl, rfl, by decide +kernel, rfl, by decide +kernel, by decide +kernel⟩
theorem ok_Rule_strikes_in {f : Addr} {fd : FuncData} (T : HD K mg) (F : FunD K "strikes_in" "Rule.strikes_in" (defArgs (inClass (topS 31) 5)) (defBody (inClass (topS 31) 5)) (defScope (inClass (topS 31) 5)) [] [] f fd) : FnOk P w K mg base (L2.CX P w) 2 f fd ["self", "numbers", "begin"] (spStrikes K) := by
  refine F.ok sc_Rule_strikes_in (fun vs H Q E h => by obtain ⟨_, _, _, _, _, _, rfl, _⟩ := h; rfl) (fun cdv A outer s H vs Q E hr h => ?_)
  refine ⟨_, (pss_one (ps_ret (pe_and (pe_cmpR op_gt (pe_op op_and (pe_ix ix_tup (pv 1) (pe_op op_add (pv 2) (pe_fld (pv 0) rfl)) (fun _ _ => rfl)) (pe_fld (pv 0) rfl)) pe_int (nomark _)) (pe_one (pe_m (c_Rule_holds T) hr (by decide) (pv 0) (pa_cons (pv 1) (pa_cons (pv 2) pa_nil))))))), ?_⟩
  try dsimp only [cxOf]
  obtain ⟨a, t, ls, d, ms, b, rfl, ra, n4, hk, ht, hb, q⟩ := h
  obtain ⟨dx, va, tp, tn, as, c, ha, ⟨dv, hv⟩, htp, cs, htn, hj⟩ := id ra
  walk_at "go"
  refine g_ixU (v := .int ((ms.getD (b + d.k) 0 : Nat) : Int)) (sq_t ht) (show atI _ ((b : Int) + (d.k : Int)) = _ from ?_) ?_
  · rw [show (b : Int) + (d.k : Int) = ((b + d.k : Nat) : Int) by omega]
    exact atI_nat (j := b + d.k) (by rw [List.getElem?_map]; simp [List.getD, show b + d.k < ms.length by omega])
  · walk_at "go"
    rw [and_n, show decide ((((ms.getD (b + d.k) 0 &&& 2 ^ d.j : Nat) : Int)) > 0) = decide (ms.getD (b + d.k) 0 &&& 2 ^ d.j ≠ 0) from decide_eq_decide.mpr (by omega)]
    refine if_split (fun h1 => ?_) (fun h1 => ?_)
    · walk_at "go"
      refine g_mt ha rfl ?_
      walk_at "go"
      refine ⟨a, t, ls, d, ms, b, rfl, ra, n4, ht, hb, fun H1 e1 => ?_⟩
      have z := q H1 e1
      rw [show decide (StrikesAt d ms b) = decide (HoldsAt d.ns ms b) from decide_eq_decide.mpr ⟨fun y => y.2, fun y => ⟨h1, y⟩⟩] at z
      exact z
    · walk_at "go"
      have z := q H Ex.rfl'
      rw [decide_eq_false (fun y : StrikesAt d ms b => h1 y.1)] at z
      exact z
theorem c_Rule_strikes_in (T : HD K mg) : Mth P w K mg base (He.ga K "Rule") "strikes_in" 2 (spStrikes K) := by
  obtain ⟨fd, F⟩ := T.fnd 19 rfl
  exact ⟨_, fd, ["self", "numbers", "begin"], T.cls_Rule, T.me_Rule_strikes_in, ok_Rule_strikes_in T F, F.bindsN fun _ _ _ _ _ _ us hl => match us, hl with | [_, _, _], _ => rfl, fnIn_of F⟩
def Spans (d : RD) (m : Nat) (p : Int) : Prop := 0 ≤ p ∧ p + d.ns.length ≤ m ∧ ¬ (d.l = true ∧ 0 < p) ∧ (p + d.ns.length = m ∨ d.r = false)
instance (d : RD) (m : Nat) (p : Int) : Decidable (Spans d m p) := by unfold Spans; infer_instance
def spSpans (K : PySem.W.Frag) : Sp := fun vs H Q _ => ∃ (a : Addr) (ls : List Nat) (d : RD) (m : Nat) (p : Int), vs = [.ref a, .int (m : Int), .int p] ∧ RuleAt K H a ls d ∧ Q (.bl (decide (Spans d m p))) H
abbrev N_Rule_spans : List Str := ["self", "many", "place", "end"]
theorem sc_Rule_spans : FnScope N_Rule_spans ["self", "many", "place"] (defScope (inClass (topS 31) 6)) := ⟨rfl, rfl, rfl, by decide +kernel, rfl, by decide +kernel, by decide +kernel⟩
theorem ok_Rule_spans {f : Addr} {fd : FuncData} (T : HD K mg) (F : FunD K "spans" "Rule.spans" (defArgs (inClass (topS 31) 6)) (defBody (inClass (topS 31) 6)) (defScope (inClass (topS 31) 6)) [] [] f fd) : FnOk P w K mg base (L2.CX P w) 1 f fd ["self", "many", "place"] (spSpans K) := by
  refine F.ok sc_Rule_spans (fun vs H Q E h => by obtain ⟨_, _, _, _, _, rfl, _⟩ := h; rfl) (fun cdv A outer s H vs Q E hr h => ?_)
  refine ⟨_, (pss_cons (ps_set (i := 3) sc_Rule_spans.nd rfl (by first | exact .inl rfl | exact .inr rfl) (pe_op op_add (pv 2) (pe_callB call_lenG rfl T.b_len PySem.boot_len (pa_cons (pe_fld (pv 0) rfl) pa_nil))))
 (pss_cons (ps_if (PW.pt (pw_or (pt_cmpR op_lt (pv 2) pe_int (nomark _)) (pw_or (pt_cmpR op_gt (pv 3) (pv 1) (nomark _)) (pw_or1 (PW.pt (pw_and (pt_val (pe_fld (pv 0) rfl)) (pw_and1 (pt_cmpR op_gt (pv 2) pe_int (nomark _)))))))))
 (pss_one (ps_ret pe_bl))
 pss_nil)
 (pss_one (ps_ret (pe_or (pe_cmpR op_eq (pv 3) (pv 1) (nomark _)) (pe_one (pe_not (pe_fld (pv 0) rfl)))))))), ?_⟩
  try dsimp only [cxOf]
  obtain ⟨a, ls, d, m, p, rfl, ra, q⟩ := h
  obtain ⟨dx, va, tp, tn, as, c, ha, ⟨dv, hv⟩, htp, cs, htn, hj⟩ := id ra
  have no : ¬ Spans d m p → Q (.bl false) H := fun z => by rwa [decide_eq_false z] at q
  have lt : ∀ z : 0 ≤ p ∧ p + d.ns.length ≤ m ∧ ¬ (d.l = true ∧ 0 < p), p + d.ns.length = m → Q (.bl true) H := fun z e => by rwa [decide_eq_true (show Spans d m p from ⟨z.1, z.2.1, z.2.2, .inl e⟩)] at q
  have lf : ∀ z : 0 ≤ p ∧ p + d.ns.length ≤ m ∧ ¬ (d.l = true ∧ 0 < p), ¬ p + d.ns.length = m → Q (.bl (!d.r)) H := fun z e => by
    rw [show decide (Spans d m p) = !d.r from ?_] at q
    · exact q
    · cases er : d.r with
      | true => exact decide_eq_false fun y => (y.2.2.2.elim e fun w => by rw [er] at w; cases w)
      | false => exact decide_eq_true (show Spans d m p from ⟨z.1, z.2.1, z.2.2, .inr er⟩)
  walk_at "go"
  refine g_lenU (sq_t htn) ?_
  rw [List.length_map]
  walk_at "go"
  refine if_split (fun h1 => ?_) (fun h1 => ?_)
  · walk_at "go"
    exact no fun z => by have := z.1; omega
  · walk_at "go"
    refine if_split (fun h2 => ?_) (fun h2 => ?_)
    · walk_at "go"
      exact no fun z => by have := z.2.1; omega
    · walk_at "go"
      refine if_b (fun h3 => ?_) (fun h3 => ?_)
      · walk_at "go"
        refine if_split (fun h4 => ?_) (fun h4 => ?_)
        · walk_at "go"
          exact no fun z => z.2.2.1 ⟨h3, by omega⟩
        · walk_at "go"
          rw [dvi]
          have z : 0 ≤ p ∧ p + d.ns.length ≤ m ∧ ¬ (d.l = true ∧ 0 < p) := ⟨by omega, by omega, fun y => h4 (by omega)⟩
          refine if_split (fun h5 => lt z h5) (fun h5 => ?_)
          walk_at "go"
          exact lf z h5
      · walk_at "go"
        rw [dvi]
        have z : 0 ≤ p ∧ p + d.ns.length ≤ m ∧ ¬ (d.l = true ∧ 0 < p) := ⟨by omega, by omega, fun y => by rw [h3] at y; cases y.1⟩
        refine if_split (fun h5 => lt z h5) (fun h5 => ?_)
        walk_at "go"
        exact lf z h5
theorem c_Rule_spans (T : HD K mg) : Mth P w K mg base (He.ga K "Rule") "spans" 1 (spSpans K) := by
  obtain ⟨fd, F⟩ := T.fnd 20 rfl
  exact ⟨_, fd, ["self", "many", "place"], T.cls_Rule, T.me_Rule_spans, ok_Rule_spans T F, F.bindsN fun _ _ _ _ _ _ us hl => match us, hl with | [_, _, _], _ => rfl, fnIn_of F⟩
def spItem (K : PySem.W.Frag) : Sp := fun vs H Q _ => ∃ (va : Addr) (x : V) (k : Int) (ls : List Nat) (n : Nat), vs = [.ref va, x, .int k] ∧ ValsAt K H va ls ∧ OkL ls ∧ Tells K H ls x n ∧ n ≠ 0 ∧ ∀ b H', Ex H H' → CellOf K H' ls b n → Q (.ref b) H'
abbrev N_item_of : List Str := ["values", "thing", "at", "cell"]
theorem sc_item_of : FnScope N_item_of ["values", "thing", "at"] (defScope (topS 34)) := ⟨rfl, rfl, rfl, by decide +kernel, rfl, by decide +kernel, by decide +kernel⟩
theorem ok_item_of {f : Addr} {fd : FuncData} (T : HD K mg) (F : FunD K "item_of" "item_of" (defArgs (topS 34)) (defBody (topS 34)) (defScope (topS 34)) [] [] f fd) : FnOk P w K mg base (L2.CX P w) 5 f fd ["values", "thing", "at"] (spItem K) := by
  refine F.ok sc_item_of (fun vs H Q E h => by obtain ⟨_, _, _, _, _, rfl, _⟩ := h; rfl) (fun cdv A outer s H vs Q E hr h => ?_)
  refine ⟨_, (pss_cons (ps_set (i := 3) sc_item_of.nd rfl (by first | exact .inl rfl | exact .inr rfl) (pe_g (c_cell_told T) hr (by decide) rfl (pa_cons (pv 0) (pa_cons (pv 1) pa_nil))))
 (pss_cons (ps_if (PW.pt (pw_or (pt_cmpR op_isNG (pv 3) pe_non (nomark _)) (pw_or1 (pt_not (pt_truR (pv 3) (tru_O (c_Cell_bool T) hr (by decide)) (fun _ => rfl))))))
 (pss_one ps_never)
 pss_nil)
 (pss_one (ps_ret (pv 3))))), ?_⟩
  try dsimp only [cxOf]
  obtain ⟨va, x, k, ls, n, rfl, v, ok, t, nz, q⟩ := h
  walk_at "go"
  refine told_of v ok t fun b H1 e1 cb => ?_
  obtain ⟨vb, cb2⟩ := id cb
  obtain ⟨⟨db, hb⟩, _⟩ := id cb2
  walk_at "go"
  refine g_truO hb ⟨b, vb, ls, n, rfl, ok, cb2, ?_⟩
  rw [decide_eq_true nz]
  walk_at "go"
  exact q b H1 e1 cb
theorem c_item_of (T : HD K mg) : Gbl P w K mg base "item_of" 5 (spItem K) := by
  obtain ⟨fd, F⟩ := T.fnd 21 rfl
  exact ⟨_, fd, ["values", "thing", "at"], ok_item_of T F, T.g_item_of, F.kp, F.bindsN fun _ _ _ _ _ _ us hl => match us, hl with | [_, _, _], _ => rfl⟩
def spLInit (K : PySem.W.Frag) : Sp := fun vs H Q _ => ∃ (x dx va p : Addr) (ls : List Nat) (xs : List V) (ns : List Nat), vs = [.ref x, .ref va, .ref p] ∧ H x = some (.ins (CL K) dx []) ∧ ValsAt K H va ls ∧ OkL ls ∧ H p = some (.lst xs) ∧ TellsAll K H ls xs ns ∧ 1 ≤ ns.length ∧ ns.length ≤ 4001 ∧
  ∀ H', Ep x H H' → LineAt K H' x ls ns → Q .non H'
abbrev N_Line_init : List Str := ["self", "values", "cells", "at", "thing"]
theorem sc_Line_init : FnScope N_Line_init ["self", "values", "cells"] (defScope (inClass (topS 38) 1)) := ⟨rfl, rfl, rfl, by decide +kernel, rfl, by decide +kernel, by decide +kernel⟩
theorem ok_Line_init {f : Addr} {fd : FuncData} (T : HD K mg) (F : FunD K "__init__" "Line.__init__" (defArgs (inClass (topS 38) 1)) (defBody (inClass (topS 38) 1)) (defScope (inClass (topS 38) 1)) [] [] f fd) : FnOk P w K mg base (L2.CX P w) 6 f fd ["self", "values", "cells"] (spLInit K) := by
  refine F.ok sc_Line_init (fun vs H Q E h => by obtain ⟨_, _, _, _, _, _, _, rfl, _⟩ := h; rfl) (fun cdv A outer s H vs Q E hr h => ?_)
  refine ⟨_, (pss_cons (ps_if (PW.pt (pw_or (pt_not (pt_val (pe_callB call_isiT rfl T.b_isinstance (by decide +kernel) (pa_cons (pv 2) (pa_cons (pe_tup (pa_cons (pe_bltn (v := .ty "list") (u := .type "list") rfl T.b_list (by decide +kernel) rfl) (pa_cons (pe_bltn (v := .ty "tuple") (u := .type "tuple") rfl T.b_tuple (by decide +kernel) rfl) pa_nil))) pa_nil))))) (pw_or1 (pt_not (pt_chain op_le op_le pe_int (pe_callB call_lenG rfl T.b_len PySem.boot_len (pa_cons (pv 2) pa_nil)) (ClX.pe_cval (pe_glob (v := .ref (He.ga _ "Line")) rfl T.g_Line rfl)))))))
 (pss_one ps_never)
 pss_nil)
 (pss_cons (ps_fld (pv 0) (pv 1) rfl)
 (pss_one (ps_fld (pv 0) (pe_lc (own := [("at", 3), ("thing", 4)]) (g := gTup K 2 (gCons (gName 3) (gCons (gName 4) gNil))) rfl sc_Line_init.nd (pi_enum rfl T.b_enumerate (pa_cons (pv 2) pa_nil)) (blkOk_by (own := [("at", 3), ("thing", 4)]) (N := N_Line_init) (sc := defScope (inClass (topS 38) 1)) (by decide +kernel)) (fun _ _ _ _ _ => (pg_tup rfl (pgs_cons (pg_name (i := 3) sc_Line_init.nd rfl (by first | exact .inl rfl | exact .inr rfl)) (pgs_cons (pg_name (i := 4) sc_Line_init.nd rfl (by first | exact .inl rfl | exact .inr rfl)) pgs_nil)))) (fun _ _ _ _ _ => pts_nil) (fun _ _ _ _ _ => (pe_g (c_item_of T) hr (by decide) rfl (pa_cons (pv 1) (pa_cons (pv 4) (pa_cons (pv 3) pa_nil)))))) rfl)))), ?_⟩
  try dsimp only [cxOf]
  obtain ⟨x, dx, va, p, ls, xs, ns, rfl, hx, v, ok, hp, ht, n1, n4, q⟩ := h
  have hl := ht.1
  walk_at "go"
  refine g_new (by decide) fun tp H1 _ e1 htp _ => ?_
  walk_at "go"
  refine isi_lt (e1 _ _ hp) htp ?_
  walk_at "go"
  refine g_len (sq_l (e1 _ _ hp)) ?_
  walk_at "go"
  refine if_dec (by omega) ?_
  walk_at "go"
  rw [decide_eq_true (show (xs.length : Int) ≤ 4001 by omega)]
  have hx1 := e1 _ _ hx
  walk_at "go"
  have v1 := v.ex e1
  have t1 := ht.kp e1.kept
  have px := Ep.rfl' (pn := x) (H := H1)
  have np := ne_lst hx1 (e1 _ _ hp)
  have pE : ∀ H', Ep x H1 H' → H' p = some (.lst xs) := fun H' e => e _ _ np (e1 _ _ hp)
  refine g_iE (sq_l (pE _ px.put)) ?_
  refine g_lcO walk_enum (show xs.length ≤ 4001 by omega) (fun i a H' => CellOf K H' ls a (ns.getD i 0)) (fun i a H1 H2 k c => c.kp k) (fun H' e => sq_l (e _ _ (pE _ px.put))) (fun i y H2 H3 hi e2 z Yes No hy => ?_) fun D as H2 hD e2 hDs al hc => ?_
  · obtain ⟨T2, x2, y2, rfl, hT, rfl, hx2, hy2⟩ := z
    cases hx2
    have g := ht.get hy2
    have eT := e2.tr (Ex.nw (o := .tup [.int (i : Nat), y2]) hT)
    walk_at "go"
    refine g_gtup (sq_t upd_same) rfl ?_
    walk_at "go"
    refine ⟨va, y2, _, ls, ns.getD i 0, rfl, (v1.em T.ne_Line_Values hx1 px.put).ex eT, ok, (((t1.get hy2).2.1).em T.ne_Line_Cell T.ne_Line_Values hx1 px.put).kp eT.kept, g.2.2, fun b H4 e4 cb => ?_⟩
    exact hy b H4 ((Ex.nw hT).tr e4) cb
  · have hx2 := e2 _ _ upd_same
    walk_at "go"
    have cs : Cells K H2 ls as ns := ⟨by omega, fun i a n z1 z2 => by
      have z := hc i a z1
      rwa [getD_of z2] at z⟩
    have pE2 : Ep x H1 H2 := px.put.tr e2.ep
    refine q _ (fun a u na z => (upd_ne na).trans (pE2 _ _ na (e1 _ _ z))) ⟨dx, va, D, as, ?_, (v1.em T.ne_Line_Values hx1 pE2).em T.ne_Line_Values hx2 Ep.rfl'.put, (upd_ne (ne_lst hx2 hDs)).trans hDs, cs.em T.ne_Line_Cell T.ne_Line_Values hx2 Ep.rfl'.put⟩
    rw [upd_same]
    rfl
theorem c_Line (T : HD K mg) : Mkr P w K mg base "Line" (He.ga K "Line") 6 (spLInit K) := by
  obtain ⟨fd, F⟩ := T.fnd 22 rfl
  exact ⟨_, fd, ["self", "values", "cells"], T.mk_Line, ok_Line_init T F, T.g_Line, F.bindsN fun _ _ _ _ _ _ us hl => match us, hl with | [_, _, _], _ => rfl⟩
def spLCells (K : PySem.W.Frag) : Sp := fun vs H Q _ => ∃ (a : Addr) (ls ns : List Nat), vs = [.ref a] ∧ LineAt K H a ls ns ∧ ∀ (tp : Addr) (as : List Addr) H', Ex H H' → H' tp = some (.tup (as.map V.ref)) → Cells K H' ls as ns → Q (.ref tp) H'
abbrev N_Line_cells : List Str := ["self"]
theorem sc_Line_cells : FnScope N_Line_cells ["self"] (defScope (inClass (topS 38) 5)) := ⟨rfl, rfl, rfl, by decide +kernel, rfl, by decide +kernel, by decide +kernel⟩
theorem ok_Line_cells {f : Addr} {fd : FuncData} (T : HD K mg) (F : FunD K "cells" "Line.cells" (defArgs (inClass (topS 38) 5)) (defBody (inClass (topS 38) 5)) (defScope (inClass (topS 38) 5)) [] [] f fd) : FnOk P w K mg base (L2.CX P w) 1 f fd ["self"] (spLCells K) := by
  refine F.ok sc_Line_cells (fun vs H Q E h => by obtain ⟨_, _, _, rfl, _⟩ := h; rfl) (fun cdv A outer s H vs Q E hr h => ?_)
  refine ⟨_, (pss_one (ps_ret (pe_callTy call_tupL rfl T.b_tuple (by decide +kernel) (pa_cons (pe_fld (pv 0) rfl) pa_nil)))), ?_⟩
  try dsimp only [cxOf]
  obtain ⟨a, ls, ns, rfl, ⟨dx, va, rp, as, ha, hv, hr2, cs⟩, q⟩ := h
  walk_at "go"
  refine g_tupL hr2 fun tp H1 _ e1 htp _ => ?_
  exact q tp as H1 e1 htp (cs.kp e1.kept)
theorem c_Line_cells (T : HD K mg) : Prp P w K mg base (He.ga K "Line") "cells" 1 (spLCells K) := by
  obtain ⟨fd, F⟩ := T.fnd 23 rfl
  exact ⟨_, _, fd, ["self"], T.cls_Line, T.pr_Line_cells, ok_Line_cells T F, F.bindsN fun _ _ _ _ _ _ us hl => match us, hl with | [_], _ => rfl⟩
def spLLen (K : PySem.W.Frag) : Sp := fun vs H Q _ => ∃ (a : Addr) (ls ns : List Nat), vs = [.ref a] ∧ LineAt K H a ls ns ∧ Q (.int (ns.length : Int)) H
abbrev N_Line_len : List Str := ["self"]
theorem sc_Line_len : FnScope N_Line_len ["self"] (defScope (inClass (topS 38) 18)) := ⟨rfl, rfl, rfl, by decide +kernel, rfl, by decide +kernel, by decide +kernel⟩
theorem ok_Line_len {f : Addr} {fd : FuncData} (T : HD K mg) (F : FunD K "__len__" "Line.__len__" (defArgs (inClass (topS 38) 18)) (defBody (inClass (topS 38) 18)) (defScope (inClass (topS 38) 18)) [] [] f fd) : FnOk P w K mg base (L2.CX P w) 1 f fd ["self"] (spLLen K) := by
  refine F.ok sc_Line_len (fun vs H Q E h => by obtain ⟨_, _, _, rfl, _⟩ := h; rfl) (fun cdv A outer s H vs Q E hr h => ?_)
  refine ⟨_, (pss_one (ps_ret (pe_callB call_lenG rfl T.b_len PySem.boot_len (pa_cons (pe_fld (pv 0) rfl) pa_nil)))), ?_⟩
  try dsimp only [cxOf]
  obtain ⟨a, ls, ns, rfl, ⟨dx, va, rp, as, ha, hv, hr2, cs⟩, q⟩ := h
  walk_at "go"
  refine g_len (sq_l hr2) ?_
  rw [List.length_map, cs.1]
  exact q
theorem c_Line_len (T : HD K mg) : Mth P w K mg base (He.ga K "Line") "__len__" 1 (spLLen K) := by
  obtain ⟨fd, F⟩ := T.fnd 24 rfl
  exact ⟨_, fd, ["self"], T.cls_Line, T.me_Line_len, ok_Line_len T F, F.bindsN fun _ _ _ _ _ _ us hl => match us, hl with | [_], _ => rfl, fnIn_of F⟩
def spNums (K : PySem.W.Frag) : Sp := fun vs H Q _ => ∃ (a : Addr) (ls ns : List Nat), vs = [.ref a] ∧ LineAt K H a ls ns ∧ ns.length ≤ 4000 ∧ ∀ (tn : Addr) H', Ex H H' → H' tn = some (.tup (ns.map fun (n : Nat) => V.int (n : Int))) → Q (.ref tn) H'
abbrev N_numbers_of : List Str := ["line", "cell"]
theorem sc_numbers_of : FnScope N_numbers_of ["line"] (defScope (topS 32)) := ⟨rfl, rfl, rfl, by decide +kernel, rfl, by decide +kernel, by decide +kernel⟩
theorem ok_numbers_of {f : Addr} {fd : FuncData} (T : HD K mg) (F : FunD K "numbers_of" "numbers_of" (defArgs (topS 32)) (defBody (topS 32)) (defScope (topS 32)) [] [] f fd) : FnOk P w K mg base (L2.CX P w) 3 f fd ["line"] (spNums K) := by
  refine F.ok sc_numbers_of (fun vs H Q E h => by obtain ⟨_, _, _, rfl, _⟩ := h; rfl) (fun cdv A outer s H vs Q E hr h => ?_)
  refine ⟨_, (pss_one (ps_ret (pe_callTy call_tupL rfl T.b_tuple (by decide +kernel) (pa_cons (pe_lc (own := [("cell", 1)]) (g := gName 1) rfl sc_numbers_of.nd (pi_tup (pe_p (c_Line_cells T) hr (by decide) (pv 0))) (blkOk_by (own := [("cell", 1)]) (N := N_numbers_of) (sc := defScope (topS 32)) (by decide +kernel)) (fun _ _ _ _ _ => (pg_name (i := 1) sc_numbers_of.nd rfl (by first | exact .inl rfl | exact .inr rfl))) (fun _ _ _ _ _ => pts_nil) (fun _ _ _ _ _ => (pe_fldK (K := K) rfl (pv 1) rfl))) pa_nil)))), ?_⟩
  try dsimp only [cxOf]
  obtain ⟨a, ls, ns, rfl, la, n4, q⟩ := h
  obtain ⟨dx, va, rp, bs, ha, _⟩ := id la
  walk_at "go"
  refine g_pr ha ⟨a, ls, ns, rfl, la, fun tp as H1 e1 htp cs => ?_⟩
  walk_at "go"
  refine g_iU (sq_t htp) ?_
  refine g_lcV walk_tup (fun _ => true) (fun i => .int ((ns.getD i 0 : Nat) : Int)) (fun H' e => sq_t (e _ _ htp)) (by rw [List.length_map, cs.1]; omega) (fun i y H3 H4 hi e3 z => ?_) fun D H3 hD e3 hl => ?_
  · obtain ⟨rfl, hy⟩ := z
    rw [List.getElem?_map] at hy
    obtain ⟨a2, ha2, rfl⟩ := Option.map_eq_some_iff.mp hy
    have hi2 : i < ns.length := by have := (List.getElem?_eq_some_iff.mp ha2).1; have := cs.1; omega
    have hn2 : ns[i]? = some (ns.getD i 0) := by simp [List.getD, hi2]
    obtain ⟨v2, c2⟩ := (cs.2 i a2 _ ha2 hn2).kp e3.kept
    obtain ⟨⟨d2, hb2⟩, _⟩ := id c2
    refine ⟨Ex.rfl', fun Yes No hy _ => ?_⟩
    walk_at "go"
    exact hy rfl _ Ex.rfl'
  · rw [List.length_map, cs.1] at hl
    have hl := hl.trans (congrArg (fun z => some (HO.lst z)) (given_map ns 0 fun n => V.int (n : Int)))
    walk_at "go"
    refine g_tupL hl fun tn H4 _ e4 htn _ => ?_
    exact q tn H4 ((e1.tr e3).tr e4) htn
theorem c_numbers_of (T : HD K mg) : Gbl P w K mg base "numbers_of" 3 (spNums K) := by
  obtain ⟨fd, F⟩ := T.fnd 25 rfl
  exact ⟨_, fd, ["line"], ok_numbers_of T F, T.g_numbers_of, F.kp, F.bindsN fun _ _ _ _ _ _ us hl => match us, hl with | [_], _ => rfl⟩
def P_fits (d : RD) (ms : List Nat) (p : Int) : Prop := Spans d ms.length p ∧ HoldsAt d.ns ms p.toNat
instance (d : RD) (ms : List Nat) (p : Int) : Decidable (P_fits d ms p) := by unfold P_fits; infer_instance
def spFits (K : PySem.W.Frag) : Sp := fun vs H Q _ => ∃ (a b : Addr) (ls : List Nat) (d : RD) (ms : List Nat) (p : Int), vs = [.ref a, .ref b, .int p] ∧ RuleAt K H a ls d ∧ d.ns.length ≤ 4 ∧ LineAt K H b ls ms ∧ ms.length ≤ 4000 ∧ ∀ H', Ex H H' → Q (.bl (decide (P_fits d ms p))) H'
abbrev N_Rule_fits : List Str := ["self", "line", "place"]
theorem sc_Rule_fits : FnScope N_Rule_fits ["self", "line", "place"] (defScope (inClass (topS 31) 7)) := ⟨rfl, rfl, rfl, by decide +kernel, rfl, by decide +kernel, by decide +kernel⟩
theorem ok_Rule_fits {f : Addr} {fd : FuncData} (T : HD K mg) (F : FunD K "fits" "Rule.fits" (defArgs (inClass (topS 31) 7)) (defBody (inClass (topS 31) 7)) (defScope (inClass (topS 31) 7)) [] [] f fd) : FnOk P w K mg base (L2.CX P w) 5 f fd ["self", "line", "place"] (spFits K) := by
  refine F.ok sc_Rule_fits (fun vs H Q E h => by obtain ⟨_, _, _, _, _, _, rfl, _⟩ := h; rfl) (fun cdv A outer s H vs Q E hr h => ?_)
  refine ⟨_, (pss_cons (ps_expr (pe_m (c_Rule_need_values T) hr (by decide) (pv 0) (pa_cons (pv 1) pa_nil)))
 (pss_one (ps_ret (pe_and (pe_m (c_Rule_spans T) hr (by decide) (pv 0) (pa_cons (pe_callB (call_lenO (c_Line_len T) hr (by decide)) rfl T.b_len PySem.boot_len (pa_cons (pv 1) pa_nil)) (pa_cons (pv 2) pa_nil))) (pe_one (pe_m (c_Rule_holds T) hr (by decide) (pv 0) (pa_cons (pe_g (c_numbers_of T) hr (by decide) rfl (pa_cons (pv 1) pa_nil)) (pa_cons (pv 2) pa_nil)))))))), ?_⟩
  try dsimp only [cxOf]
  obtain ⟨a, b, ls, d, ms, p, rfl, ra, n4, lb, m4, q⟩ := h
  obtain ⟨dx, va, tp, tn, as, c, ha, ⟨dv, hv⟩, htp, cs, htn, hj⟩ := id ra
  obtain ⟨dy, vb, rp, bs, hb, _⟩ := id lb
  walk_at "go"
  refine g_mt ha rfl ?_
  walk_at "go"
  refine ⟨a, b, ls, d, ms, rfl, ra, lb, ?_⟩
  walk_at "go"
  refine g_mt ha rfl ?_
  walk_at "go"
  refine g_lenO hb ⟨b, ls, ms, rfl, lb, ?_⟩
  refine ⟨_, rfl, by omega, by omega, ?_⟩
  walk_at "go"
  refine ⟨a, ls, d, ms.length, p, rfl, ra, ?_⟩
  walk_at "go"
  refine if_split (fun h1 => ?_) (fun h1 => ?_)
  · obtain ⟨b0, eb⟩ : ∃ b0 : Nat, p = (b0 : Int) := ⟨p.toNat, (Int.toNat_of_nonneg h1.1).symm⟩
    subst eb
    walk_at "go"
    refine g_mt ha rfl ?_
    walk_at "go"
    refine ⟨b, ls, ms, rfl, lb, by omega, fun tm H1 e1 htm => ?_⟩
    walk_at "go"
    refine ⟨a, tm, ls, d, ms, b0, rfl, ra.kp e1.kept, n4, htm, by have := h1.2.1; omega, fun H2 e2 => ?_⟩
    have z := q H2 (e1.tr e2)
    rw [show decide (P_fits d ms (b0 : Int)) = decide (HoldsAt d.ns ms b0) from decide_eq_decide.mpr ⟨fun y => y.2, fun y => ⟨h1, y⟩⟩] at z
    exact z
  · walk_at "go"
    have z := q H Ex.rfl'
    rw [decide_eq_false (fun y : P_fits d ms p => h1 y.1)] at z
    exact z
theorem c_Rule_fits (T : HD K mg) : Mth P w K mg base (He.ga K "Rule") "fits" 5 (spFits K) := by
  obtain ⟨fd, F⟩ := T.fnd 26 rfl
  exact ⟨_, fd, ["self", "line", "place"], T.cls_Rule, T.me_Rule_fits, ok_Rule_fits T F, F.bindsN fun _ _ _ _ _ _ us hl => match us, hl with | [_, _, _], _ => rfl, fnIn_of F⟩
def P_hits (d : RD) (ms : List Nat) (p : Int) : Prop := Spans d ms.length p ∧ StrikesAt d ms p.toNat
instance (d : RD) (ms : List Nat) (p : Int) : Decidable (P_hits d ms p) := by unfold P_hits; infer_instance
def spHits (K : PySem.W.Frag) : Sp := fun vs H Q _ => ∃ (a b : Addr) (ls : List Nat) (d : RD) (ms : List Nat) (p : Int), vs = [.ref a, .ref b, .int p] ∧ RuleAt K H a ls d ∧ d.ns.length ≤ 4 ∧ d.k < d.ns.length ∧ LineAt K H b ls ms ∧ ms.length ≤ 4000 ∧ ∀ H', Ex H H' → Q (.bl (decide (P_hits d ms p))) H'
abbrev N_Rule_hits : List Str := ["self", "line", "place"]
theorem sc_Rule_hits : FnScope N_Rule_hits ["self", "line", "place"] (defScope (inClass (topS 31) 8)) := ⟨rfl, rfl, rfl, by decide +kernel, rfl, by decide +kernel, by decide +kernel⟩
theorem ok_Rule_hits {f : Addr} {fd : FuncData} (T : HD K mg) (F : FunD K "hits" "Rule.hits" (defArgs (inClass (topS 31) 8)) (defBody (inClass (topS 31) 8)) (defScope (inClass (topS 31) 8)) [] [] f fd) : FnOk P w K mg base (L2.CX P w) 5 f fd ["self", "line", "place"] (spHits K) := by
  refine F.ok sc_Rule_hits (fun vs H Q E h => by obtain ⟨_, _, _, _, _, _, rfl, _⟩ := h; rfl) (fun cdv A outer s H vs Q E hr h => ?_)
  refine ⟨_, (pss_cons (ps_expr (pe_m (c_Rule_need_values T) hr (by decide) (pv 0) (pa_cons (pv 1) pa_nil)))
 (pss_one (ps_ret (pe_and (pe_m (c_Rule_spans T) hr (by decide) (pv 0) (pa_cons (pe_callB (call_lenO (c_Line_len T) hr (by decide)) rfl T.b_len PySem.boot_len (pa_cons (pv 1) pa_nil)) (pa_cons (pv 2) pa_nil))) (pe_one (pe_m (c_Rule_strikes_in T) hr (by decide) (pv 0) (pa_cons (pe_g (c_numbers_of T) hr (by decide) rfl (pa_cons (pv 1) pa_nil)) (pa_cons (pv 2) pa_nil)))))))), ?_⟩
  try dsimp only [cxOf]
  obtain ⟨a, b, ls, d, ms, p, rfl, ra, n4, hk, lb, m4, q⟩ := h
  obtain ⟨dx, va, tp, tn, as, c, ha, ⟨dv, hv⟩, htp, cs, htn, hj⟩ := id ra
  obtain ⟨dy, vb, rp, bs, hb, _⟩ := id lb
  walk_at "go"
  refine g_mt ha rfl ?_
  walk_at "go"
  refine ⟨a, b, ls, d, ms, rfl, ra, lb, ?_⟩
  walk_at "go"
  refine g_mt ha rfl ?_
  walk_at "go"
  refine g_lenO hb ⟨b, ls, ms, rfl, lb, ?_⟩
  refine ⟨_, rfl, by omega, by omega, ?_⟩
  walk_at "go"
  refine ⟨a, ls, d, ms.length, p, rfl, ra, ?_⟩
  walk_at "go"
  refine if_split (fun h1 => ?_) (fun h1 => ?_)
  · obtain ⟨b0, eb⟩ : ∃ b0 : Nat, p = (b0 : Int) := ⟨p.toNat, (Int.toNat_of_nonneg h1.1).symm⟩
    subst eb
    walk_at "go"
    refine g_mt ha rfl ?_
    walk_at "go"
    refine ⟨b, ls, ms, rfl, lb, by omega, fun tm H1 e1 htm => ?_⟩
    walk_at "go"
    refine ⟨a, tm, ls, d, ms, b0, rfl, ra.kp e1.kept, n4, hk, htm, by have := h1.2.1; omega, fun H2 e2 => ?_⟩
    have z := q H2 (e1.tr e2)
    rw [show decide (P_hits d ms (b0 : Int)) = decide (StrikesAt d ms b0) from decide_eq_decide.mpr ⟨fun y => y.2, fun y => ⟨h1, y⟩⟩] at z
    exact z
  · walk_at "go"
    have z := q H Ex.rfl'
    rw [decide_eq_false (fun y : P_hits d ms p => h1 y.1)] at z
    exact z
theorem c_Rule_hits (T : HD K mg) : Mth P w K mg base (He.ga K "Rule") "hits" 5 (spHits K) := by
  obtain ⟨fd, F⟩ := T.fnd 27 rfl
  exact ⟨_, fd, ["self", "line", "place"], T.cls_Rule, T.me_Rule_hits, ok_Rule_hits T F, F.bindsN fun _ _ _ _ _ _ us hl => match us, hl with | [_, _, _], _ => rfl, fnIn_of F⟩
def spLLike (K : PySem.W.Frag) : Sp := fun vs H Q _ => ∃ (a b : Addr) (ls ns ms : List Nat), vs = [.ref a, .ref b] ∧ LineAt K H a ls ns ∧ LineAt K H b ls ms ∧ ns.length = ms.length ∧ Q .non H
abbrev N_Line_need_like : List Str := ["self", "other"]
theorem sc_Line_need_like : FnScope N_Line_need_like ["self", "other"] (defScope (inClass (topS 38) 9)) := ⟨rfl, rfl, rfl, by decide +kernel, rfl, by decide +kernel, by decide +kernel⟩
theorem ok_Line_need_like {f : Addr} {fd : FuncData} (T : HD K mg) (F : FunD K "need_like" "Line.need_like" (defArgs (inClass (topS 38) 9)) (defBody (inClass (topS 38) 9)) (defScope (inClass (topS 38) 9)) [] [] f fd) : FnOk P w K mg base (L2.CX P w) 2 f fd ["self", "other"] (spLLike K) := by
  refine F.ok sc_Line_need_like (fun vs H Q E h => by obtain ⟨_, _, _, _, _, rfl, _⟩ := h; rfl) (fun cdv A outer s H vs Q E hr h => ?_)
  refine ⟨_, (pss_cons (ps_if (pt_not (pt_cmpR (op_eqO (c_Values_eq T) hr (by decide)) (pe_fld (pv 0) rfl) (pe_fld (pv 1) rfl) (nomark _)))
 (pss_one ps_never)
 pss_nil)
 (pss_one (ps_if (pt_cmpR op_ne (pe_callB call_lenG rfl T.b_len PySem.boot_len (pa_cons (pe_fld (pv 0) rfl) pa_nil)) (pe_callB call_lenG rfl T.b_len PySem.boot_len (pa_cons (pe_fld (pv 1) rfl) pa_nil)) (nomark _))
 (pss_one ps_never)
 pss_nil))), ?_⟩
  try dsimp only [cxOf]
  obtain ⟨a, b, ls, ns, ms, rfl, ⟨dx, va, rp, as, ha, ⟨d1, hv⟩, hr1, cs⟩, ⟨dy, vb, rq, bs, hb, ⟨d2, hw⟩, hr2, ct⟩, e, q⟩ := h
  walk_at "go"
  refine g_eqO hv hw T.nf_Values_Values ⟨va, vb, ls, ls, rfl, ⟨_, hv⟩, ⟨_, hw⟩, ?_⟩
  rw [decide_eq_true (rfl : ls = ls)]
  walk_at "go"
  refine g_len (sq_l hr1) ?_
  walk_at "go"
  refine g_len (sq_l hr2) ?_
  rw [List.length_map, List.length_map, cs.1, ct.1, e]
  walk_at "go"
  rw [decide_eq_true (rfl : V.int (ms.length : Int) = V.int (ms.length : Int))]
  walk_at "go"
  exact q
theorem c_Line_need_like (T : HD K mg) : Mth P w K mg base (He.ga K "Line") "need_like" 2 (spLLike K) := by
  obtain ⟨fd, F⟩ := T.fnd 28 rfl
  exact ⟨_, fd, ["self", "other"], T.cls_Line, T.me_Line_need_like, ok_Line_need_like T F, F.bindsN fun _ _ _ _ _ _ us hl => match us, hl with | [_, _], _ => rfl, fnIn_of F⟩
def AllIn (ns ms : List Nat) : Prop := ∀ i ∈ List.range ns.length, ns.getD i 0 &&& ms.getD i 0 = ns.getD i 0
instance (ns ms : List Nat) : Decidable (AllIn ns ms) := by unfold AllIn; infer_instance
theorem given_rng (n : Nat) (f : Nat → Bool) : given n (fun _ => true) (fun i => .bl (f i)) = ((List.range n).map f).map V.bl := by
  unfold given
  rw [List.filter_eq_self.mpr (fun _ _ => rfl), List.map_map]
  rfl
def spLWithin (K : PySem.W.Frag) : Sp := fun vs H Q _ => ∃ (a b : Addr) (ls ns ms : List Nat), vs = [.ref a, .ref b] ∧ LineAt K H a ls ns ∧ LineAt K H b ls ms ∧ ns.length = ms.length ∧ ns.length ≤ 4000 ∧ ∀ H', Ex H H' → Q (.bl (decide (AllIn ns ms))) H'
abbrev N_Line_within : List Str := ["self", "other", "one", "two"]
theorem sc_Line_within : FnScope N_Line_within ["self", "other"] (defScope (inClass (topS 38) 12)) := ⟨rfl, rfl, rfl, by decide +kernel, rfl, by decide +kernel, by decide +kernel⟩
theorem ok_Line_within {f : Addr} {fd : FuncData} (T : HD K mg) (F : FunD K "within" "Line.within" (defArgs (inClass (topS 38) 12)) (defBody (inClass (topS 38) 12)) (defScope (inClass (topS 38) 12)) [] [] f fd) : FnOk P w K mg base (L2.CX P w) 4 f fd ["self", "other"] (spLWithin K) := by
  refine F.ok sc_Line_within (fun vs H Q E h => by obtain ⟨_, _, _, _, _, rfl, _⟩ := h; rfl) (fun cdv A outer s H vs Q E hr h => ?_)
  refine ⟨_, (pss_cons (ps_expr (pe_m (c_Line_need_like T) hr (by decide) (pv 0) (pa_cons (pv 1) pa_nil)))
 (pss_one (ps_ret (pe_callB (cr_all rfl) rfl T.b_all (by decide +kernel) (pa_cons (pe_lc (own := [("one", 2), ("two", 3)]) (g := gTup K 2 (gCons (gName 2) (gCons (gName 3) gNil))) rfl sc_Line_within.nd (pi_zip rfl T.b_zip (pa_cons (pe_fld (pv 0) rfl) (pa_cons (pe_fld (pv 1) rfl) pa_nil))) (blkOk_by (own := [("one", 2), ("two", 3)]) (N := N_Line_within) (sc := defScope (inClass (topS 38) 12)) (by decide +kernel)) (fun _ _ _ _ _ => (pg_tup rfl (pgs_cons (pg_name (i := 2) sc_Line_within.nd rfl (by first | exact .inl rfl | exact .inr rfl)) (pgs_cons (pg_name (i := 3) sc_Line_within.nd rfl (by first | exact .inl rfl | exact .inr rfl)) pgs_nil)))) (fun _ _ _ _ _ => pts_nil) (fun _ _ _ _ _ => (pe_m (c_Cell_within T) hr (by decide) (pv 2) (pa_cons (pv 3) pa_nil)))) pa_nil))))), ?_⟩
  try dsimp only [cxOf]
  obtain ⟨a, b, ls, ns, ms, rfl, la, lb, e, n4, q⟩ := h
  obtain ⟨dx, va, rp, as, ha, ⟨d1, hv⟩, hr1, cs⟩ := id la
  obtain ⟨dy, vb, rq, bs, hb, ⟨d2, hw⟩, hr2, ct⟩ := id lb
  have n1 := cs.1
  have n2 := ct.1
  walk_at "go"
  refine g_mt ha rfl ?_
  walk_at "go"
  refine ⟨a, b, ls, ns, ms, rfl, la, lb, e, ?_⟩
  walk_at "go"
  refine g_iZ (sq_l hr1) (sq_l hr2) ?_
  refine g_lcV (walk_zip (n := ns.length) (xs := as.map V.ref) (ys := bs.map V.ref) (by rw [List.length_map, List.length_map]; omega)) (fun _ => true) (fun i => .bl (decide (ns.getD i 0 &&& ms.getD i 0 = ns.getD i 0))) (fun H' e => ⟨sq_l (e _ _ hr1), sq_l (e _ _ hr2)⟩) (by omega) (fun i y H1 H2 hi e1 z => ?_) fun D H2 hD e2 hl => ?_
  · obtain ⟨T2, x2, y2, rfl, hT, rfl, hx2, hy2⟩ := z
    have hx2 : (as.map V.ref)[i]? = some x2 := hx2
    have hy2 : (bs.map V.ref)[i]? = some y2 := hy2
    rw [List.getElem?_map] at hx2 hy2
    obtain ⟨a2, ha2, rfl⟩ := Option.map_eq_some_iff.mp hx2
    obtain ⟨b2, hb2, rfl⟩ := Option.map_eq_some_iff.mp hy2
    have eT := e1.tr (Ex.nw (o := .tup [.ref a2, .ref b2]) hT)
    obtain ⟨v2, c2⟩ := (cs.2 i a2 (ns.getD i 0) ha2 (by simp [List.getD, hi])).kp eT.kept
    obtain ⟨w2, d2⟩ := (ct.2 i b2 (ms.getD i 0) hb2 (by simp [List.getD, show i < ms.length by omega])).kp eT.kept
    obtain ⟨⟨da, hca⟩, _⟩ := id c2
    refine ⟨Ex.nw hT, fun Yes No hy _ => ?_⟩
    walk_at "go"
    refine g_gtup (sq_t upd_same) rfl ?_
    walk_at "go"
    refine g_mt hca rfl ?_
    walk_at "go"
    refine ⟨a2, b2, v2, w2, ls, _, _, rfl, c2, d2, ?_⟩
    exact hy rfl _ Ex.rfl'
  · have hl := hl.trans (congrArg (fun z => some (HO.lst z)) (given_rng ns.length fun i => decide (ns.getD i 0 &&& ms.getD i 0 = ns.getD i 0)))
    walk_at "go"
    refine g_all hl ?_
    rw [all_dec]
    exact q H2 e2
theorem c_Line_within (T : HD K mg) : Mth P w K mg base (He.ga K "Line") "within" 4 (spLWithin K) := by
  obtain ⟨fd, F⟩ := T.fnd 29 rfl
  exact ⟨_, fd, ["self", "other"], T.cls_Line, T.me_Line_within, ok_Line_within T F, F.bindsN fun _ _ _ _ _ _ us hl => match us, hl with | [_, _], _ => rfl, fnIn_of F⟩
theorem mkL {K : PySem.W.Frag} {H : Hp} {Q : VK} {va p : Addr} {ls : List Nat} {xs : List V} {ns : List Nat} (v : ValsAt K H va ls) (ok : OkL ls) (hp : H p = some (.lst xs)) (ht : TellsAll K H ls xs ns) (n1 : 1 ≤ ns.length) (n4 : ns.length ≤ 4001)
    (q : ∀ x H', Ex H H' → H x = none → LineAt K H' x ls ns → Q (.ref x) H') : kMk (CL K) (spLInit K) [.ref va, .ref p] H Q := by
  intro x dx hx hdx ne
  have e1 : Ex H (upd (upd H dx (.own x)) x (.ins (CL K) dx [])) := fun a o z => (upd_ne (ne_of_none z hx)).trans ((upd_ne (ne_of_none z hdx)).trans z)
  refine ⟨x, dx, va, p, ls, xs, ns, rfl, upd_same, v.ex e1, ok, e1 _ _ hp, ht.kp e1.kept, n1, n4, fun H2 ep l => ⟨rfl, ?_⟩⟩
  exact q x H2 (fun a o z => ep a o (ne_of_none z hx) (e1 a o z)) hx l
def ors (ns ms : List Nat) : List Nat := (List.range ns.length).map fun i => ns.getD i 0 ||| ms.getD i 0
theorem ors_get {ns ms : List Nat} {i : Nat} (h : i < ns.length) : (ors ns ms)[i]? = some (ns.getD i 0 ||| ms.getD i 0) := by
  unfold ors
  rw [List.getElem?_map, List.getElem?_range h]
  rfl
theorem ors_len (ns ms : List Nat) : (ors ns ms).length = ns.length := by simp [ors]
def spLOr (K : PySem.W.Frag) : Sp := fun vs H Q _ => ∃ (a b : Addr) (ls ns ms : List Nat), vs = [.ref a, .ref b] ∧ OkL ls ∧ LineAt K H a ls ns ∧ LineAt K H b ls ms ∧ ns.length = ms.length ∧ 1 ≤ ns.length ∧ ns.length ≤ 4001 ∧ (∀ n ∈ ns, n ≠ 0) ∧ ∀ x H', Ex H H' → H x = none → LineAt K H' x ls (ors ns ms) → Q (.ref x) H'
abbrev N_Line_or : List Str := ["self", "other", "one", "two"]
theorem sc_Line_or : FnScope N_Line_or ["self", "other"] (defScope (inClass (topS 38) 24)) := ⟨rfl, rfl, rfl, by decide +kernel, rfl, by decide +kernel, by decide +kernel⟩
theorem ok_Line_or {f : Addr} {fd : FuncData} (T : HD K mg) (F : FunD K "__or__" "Line.__or__" (defArgs (inClass (topS 38) 24)) (defBody (inClass (topS 38) 24)) (defScope (inClass (topS 38) 24)) [] [] f fd) : FnOk P w K mg base (L2.CX P w) 8 f fd ["self", "other"] (spLOr K) := by
  refine F.ok sc_Line_or (fun vs H Q E h => by obtain ⟨_, _, _, _, _, rfl, _⟩ := h; rfl) (fun cdv A outer s H vs Q E hr h => ?_)
  refine ⟨_, (pss_cons (ps_expr (pe_m (c_Line_need_like T) hr (by decide) (pv 0) (pa_cons (pv 1) pa_nil)))
 (pss_one (ps_ret (pe_n (c_Line T) hr (by decide) rfl (pa_cons (pe_fld (pv 0) rfl) (pa_cons (pe_lc (own := [("one", 2), ("two", 3)]) (g := gTup K 2 (gCons (gName 2) (gCons (gName 3) gNil))) rfl sc_Line_or.nd (pi_zip rfl T.b_zip (pa_cons (pe_fld (pv 0) rfl) (pa_cons (pe_fld (pv 1) rfl) pa_nil))) (blkOk_by (own := [("one", 2), ("two", 3)]) (N := N_Line_or) (sc := defScope (inClass (topS 38) 24)) (by decide +kernel)) (fun _ _ _ _ _ => (pg_tup rfl (pgs_cons (pg_name (i := 2) sc_Line_or.nd rfl (by first | exact .inl rfl | exact .inr rfl)) (pgs_cons (pg_name (i := 3) sc_Line_or.nd rfl (by first | exact .inl rfl | exact .inr rfl)) pgs_nil)))) (fun _ _ _ _ _ => pts_nil) (fun _ _ _ _ _ => (pe_op (op_own (c_Cell_or T) T.sf_Cell hr (by decide)) (pv 2) (pv 3)))) pa_nil)))))), ?_⟩
  try dsimp only [cxOf]
  obtain ⟨a, b, ls, ns, ms, rfl, ok, la, lb, e, n1, n4, nz, q⟩ := h
  obtain ⟨dx, va, rp, as, ha, ⟨d1, hv⟩, hr1, cs⟩ := id la
  obtain ⟨dy, vb, rq, bs, hb, ⟨d2, hw⟩, hr2, ct⟩ := id lb
  have n2 := cs.1
  have n3 := ct.1
  walk_at "go"
  refine g_mt ha rfl ?_
  walk_at "go"
  refine ⟨a, b, ls, ns, ms, rfl, la, lb, e, ?_⟩
  walk_at "go"
  refine g_iZ (sq_l hr1) (sq_l hr2) ?_
  refine g_lcO (walk_zip (n := ns.length) (xs := as.map V.ref) (ys := bs.map V.ref) (by rw [List.length_map, List.length_map]; omega)) (by omega) (fun i a H' => CellOf K H' ls a (ns.getD i 0 ||| ms.getD i 0)) (fun i a H1 H2 k c => c.kp k) (fun H' e => ⟨sq_l (e _ _ hr1), sq_l (e _ _ hr2)⟩) (fun i y H1 H2 hi e1 z Yes No hy => ?_) fun D cc H2 hD e2 hl hcl hcc => ?_
  · obtain ⟨T2, x2, y2, rfl, hT, rfl, hx2, hy2⟩ := z
    have hx2 : (as.map V.ref)[i]? = some x2 := hx2
    have hy2 : (bs.map V.ref)[i]? = some y2 := hy2
    rw [List.getElem?_map] at hx2 hy2
    obtain ⟨a2, ha2, rfl⟩ := Option.map_eq_some_iff.mp hx2
    obtain ⟨b2, hb2, rfl⟩ := Option.map_eq_some_iff.mp hy2
    have eT := e1.tr (Ex.nw (o := .tup [.ref a2, .ref b2]) hT)
    obtain ⟨v2, c2⟩ := (cs.2 i a2 (ns.getD i 0) ha2 (by simp [List.getD, hi])).kp eT.kept
    obtain ⟨w2, d2⟩ := (ct.2 i b2 (ms.getD i 0) hb2 (by simp [List.getD, show i < ms.length by omega])).kp eT.kept
    obtain ⟨⟨da, hca⟩, _⟩ := id c2
    obtain ⟨⟨db, hcb⟩, _⟩ := id d2
    walk_at "go"
    refine g_gtup (sq_t upd_same) rfl ?_
    walk_at "go"
    refine g_binO hca hcb ⟨a2, b2, v2, w2, ls, _, _, rfl, ok, c2, d2, fun x H4 e4 _ cx => ?_⟩
    exact hy x H4 ((Ex.nw hT).tr e4) ⟨_, cx⟩
  · walk_at "go"
    refine mkL (ns := ors ns ms) ⟨d1, e2 _ _ hv⟩ ok hl ⟨by rw [List.length_map, ors_len]; exact hcl, fun i x n z1 z2 => ?_⟩ (by rw [ors_len]; exact n1) (by rw [ors_len]; exact n4) fun x H4 e4 hx4 l4 => ?_
    · rw [List.getElem?_map] at z1
      obtain ⟨a2, ha2, rfl⟩ := Option.map_eq_some_iff.mp z1
      have hi : i < ns.length := by have := (List.getElem?_eq_some_iff.mp ha2).1; omega
      rw [ors_get hi] at z2
      cases z2
      refine ⟨.inl ⟨a2, rfl, hcc i a2 ha2⟩, fun z => ?_⟩
      have y := nz (ns.getD i 0) (by rw [show ns.getD i 0 = ns[i] by simp [List.getD, hi]]; exact List.getElem_mem hi)
      have l := within_left (ns.getD i 0) (ms.getD i 0)
      rw [z, Nat.and_zero] at l
      exact y l.symm
    · walk_at "go"
      exact q x H4 (e2.tr e4) (e2.none hx4) l4
theorem c_Line_or (T : HD K mg) : Mth P w K mg base (He.ga K "Line") "__or__" 8 (spLOr K) := by
  obtain ⟨fd, F⟩ := T.fnd 30 rfl
  exact ⟨_, fd, ["self", "other"], T.cls_Line, T.me_Line_or, ok_Line_or T F, F.bindsN fun _ _ _ _ _ _ us hl => match us, hl with | [_, _], _ => rfl, fnIn_of F⟩
def spLPlace (K : PySem.W.Frag) : Sp := fun vs H Q _ => ∃ (a : Addr) (k : Nat) (ls ns : List Nat), vs = [.ref a, .int (k : Int)] ∧ LineAt K H a ls ns ∧ k < ns.length ∧ Q .non H
abbrev N_Line_need_place : List Str := ["self", "at"]
theorem sc_Line_need_place : FnScope N_Line_need_place ["self", "at"] (defScope (inClass (topS 38) 10)) := ⟨rfl, rfl, rfl, by decide +kernel, rfl, by decide +kernel, by decide +kernel⟩
theorem ok_Line_need_place {f : Addr} {fd : FuncData} (T : HD K mg) (F : FunD K "need_place" "Line.need_place" (defArgs (inClass (topS 38) 10)) (defBody (inClass (topS 38) 10)) (defScope (inClass (topS 38) 10)) [] [] f fd) : FnOk P w K mg base (L2.CX P w) 2 f fd ["self", "at"] (spLPlace K) := by
  refine F.ok sc_Line_need_place (fun vs H Q E h => by obtain ⟨_, _, _, _, rfl, _⟩ := h; rfl) (fun cdv A outer s H vs Q E hr h => ?_)
  refine ⟨_, (pss_one (ps_if (pt_not (pt_val (pe_g (c_is_whole T) hr (by decide) rfl (pa_cons (pv 1) (pa_cons pe_int (pa_cons (pe_op op_sub (pe_callB call_lenG rfl T.b_len PySem.boot_len (pa_cons (pe_fld (pv 0) rfl) pa_nil)) pe_int) pa_nil))))))
 (pss_one ps_never)
 pss_nil)), ?_⟩
  try dsimp only [cxOf]
  obtain ⟨a, k, ls, ns, rfl, ⟨dx, va, rp, as, ha, hv, hr1, cs⟩, hk, q⟩ := h
  walk_at "go"
  refine g_len (sq_l hr1) ?_
  rw [List.length_map, cs.1]
  walk_at "go"
  refine ⟨_, _, _, rfl, ?_⟩
  rw [decide_eq_true (show (0 : Int) ≤ (k : Int) ∧ (k : Int) ≤ (ns.length : Int) - 1 by omega)]
  walk_at "go"
  exact q
theorem c_Line_need_place (T : HD K mg) : Mth P w K mg base (He.ga K "Line") "need_place" 2 (spLPlace K) := by
  obtain ⟨fd, F⟩ := T.fnd 31 rfl
  exact ⟨_, fd, ["self", "at"], T.cls_Line, T.me_Line_need_place, ok_Line_need_place T F, F.bindsN fun _ _ _ _ _ _ us hl => match us, hl with | [_, _], _ => rfl, fnIn_of F⟩
def spLItem (K : PySem.W.Frag) : Sp := fun vs H Q _ => ∃ (a : Addr) (k : Nat) (ls ns : List Nat), vs = [.ref a, .int (k : Int)] ∧ LineAt K H a ls ns ∧ k < ns.length ∧ ∀ b, CellOf K H ls b (ns.getD k 0) → Q (.ref b) H
abbrev N_Line_getitem : List Str := ["self", "at"]
theorem sc_Line_getitem : FnScope N_Line_getitem ["self", "at"] (defScope (inClass (topS 38) 19)) := ⟨rfl, rfl, rfl, by decide +kernel, rfl, by decide +kernel, by decide +kernel⟩
theorem ok_Line_getitem {f : Addr} {fd : FuncData} (T : HD K mg) (F : FunD K "__getitem__" "Line.__getitem__" (defArgs (inClass (topS 38) 19)) (defBody (inClass (topS 38) 19)) (defScope (inClass (topS 38) 19)) [] [] f fd) : FnOk P w K mg base (L2.CX P w) 3 f fd ["self", "at"] (spLItem K) := by
  refine F.ok sc_Line_getitem (fun vs H Q E h => by obtain ⟨_, _, _, _, rfl, _⟩ := h; rfl) (fun cdv A outer s H vs Q E hr h => ?_)
  refine ⟨_, (pss_cons (ps_expr (pe_m (c_Line_need_place T) hr (by decide) (pv 0) (pa_cons (pv 1) pa_nil)))
 (pss_one (ps_ret (pe_ix ix_list (pe_fld (pv 0) rfl) (pv 1) (fun _ _ => rfl))))), ?_⟩
  try dsimp only [cxOf]
  obtain ⟨a, k, ls, ns, rfl, la, hk, q⟩ := h
  obtain ⟨dx, va, rp, as, ha, hv, hr1, cs⟩ := id la
  have n2 := cs.1
  walk_at "go"
  refine g_mt ha rfl ?_
  walk_at "go"
  refine ⟨a, k, ls, ns, rfl, la, hk, ?_⟩
  walk_at "go"
  obtain ⟨b, hb⟩ : ∃ b, as[k]? = some b := ⟨as[k]'(by omega), by simp⟩
  refine g_ixL (sq_l hr1) (atI_nat (j := k) (by rw [List.getElem?_map, hb]; rfl)) ?_
  exact q b (cs.2 k b _ hb (by simp [List.getD, hk]))
theorem c_Line_getitem (T : HD K mg) : Mth P w K mg base (He.ga K "Line") "__getitem__" 3 (spLItem K) := by
  obtain ⟨fd, F⟩ := T.fnd 32 rfl
  exact ⟨_, fd, ["self", "at"], T.cls_Line, T.me_Line_getitem, ok_Line_getitem T F, F.bindsN fun _ _ _ _ _ _ us hl => match us, hl with | [_, _], _ => rfl, fnIn_of F⟩
theorem cut_ints (ns : List Int) (j : Nat) : ∃ cs : List Int, cutV (ns.map V.int) none (some (j : Int)) = cs.map V.int ∧ cs.length ≤ j := by
  refine ⟨ns.take (min j ns.length), ?_, by rw [List.length_take]; omega⟩
  unfold cutV
  rw [show HT.sIx (ns.map V.int).length 0 none = 0 from rfl, HT.sIx_nat, List.length_map, List.drop_zero, Nat.sub_zero, List.map_take]
def spPen (K : PySem.W.Frag) : Sp := fun vs H Q _ => ∃ (a : Addr) (ns : List Int), vs = [.ref a] ∧ SqL K H a (ns.map V.int) ∧ ∀ pn c H', Ex H H' → PenAt H' pn c 0 → Q (.ref pn) H'
abbrev N_l_pen : List Str := ["_law_script"]
theorem sc_l_pen : FnScope N_l_pen ["_law_script"] (defScope (topS 40)) := ⟨rfl, rfl, rfl, by decide +kernel, rfl, by decide +kernel, by decide +kernel⟩
theorem ok_l_pen {f : Addr} {fd : FuncData} (T : HD K mg) (F : FunD K "_law_pen" "_law_pen" (defArgs (topS 40)) (defBody (topS 40)) (defScope (topS 40)) [] [] f fd) : FnOk P w K mg base (L2.CX P w) 1 f fd ["_law_script"] (spPen K) := by
  refine F.ok sc_l_pen (fun vs H Q E h => by obtain ⟨_, _, rfl, _⟩ := h; rfl) (fun cdv A outer s H vs Q E hr h => ?_)
  refine ⟨_, (pss_one (ps_ret (pe_lst (pa_cons (pe_callTy call_listG rfl T.b_list (by decide +kernel) (pa_cons (pe_sliceG sl_list (pv 0) po_none (po_some pe_int)) pa_nil)) (pa_cons pe_int (pa_cons pe_int pa_nil)))))), ?_⟩
  try dsimp only [cxOf]
  obtain ⟨a, ns, rfl, h, q⟩ := h
  walk_at "go"
  refine g_slL h fun l H1 n1 e1 hl _ => ?_
  obtain ⟨cs, ec, lc⟩ := cut_ints ns 63
  rw [show ((63 : Nat) : Int) = 63 from rfl] at ec
  rw [ec] at hl
  walk_at "go"
  refine g_listL hl fun c H2 n2 e2 hc _ => ?_
  walk_at "go"
  refine g_new (show 3 ≤ 1000 by decide) fun pn H3 n3 e3 hp _ => ?_
  have hc3 := e3 _ _ hc
  refine q pn c H3 ((e1.tr e2).tr e3) ⟨cs, 0, 0, fun e => ?_, hp, hc3, by omega, by omega, lc⟩
  rw [e, n3] at hc
  cases hc
theorem c_l_pen (T : HD K mg) : Gbl P w K mg base "_law_pen" 1 (spPen K) := by
  obtain ⟨fd, F⟩ := T.fnd 33 rfl
  exact ⟨_, fd, ["_law_script"], ok_l_pen T F, T.g_l_pen, F.kp, F.bindsN fun _ _ _ _ _ _ us hl => match us, hl with | [_], _ => rfl⟩
def spDraw : Sp := fun vs H Q _ => ∃ (pn c : Addr) (m n : Nat), vs = [.ref pn, .int (n : Int)] ∧ PenAt H pn c m ∧ 1 ≤ n ∧ n ≤ 1000000 ∧ m ≤ 900000 ∧ ∀ (k : Nat) H', k < n → Ep pn H H' → PenAt H' pn c (m + 1) → Q (.int (k : Int)) H'
abbrev N_l_draw : List Str := ["_law_pen_here", "_law_many", "_law_taken", "_law_cell_here", "_law_mixed", "_law_digit", "_law_great"]
theorem sc_l_draw : FnScope N_l_draw ["_law_pen_here", "_law_many"] (defScope (topS 41)) := ⟨rfl, rfl, rfl, by decide +kernel, rfl, by decide +kernel, by decide +kernel⟩
theorem ok_l_draw {f : Addr} {fd : FuncData} (T : HD K mg) (F : FunD K "_law_draw" "_law_draw" (defArgs (topS 41)) (defBody (topS 41)) (defScope (topS 41)) [] [] f fd) : FnOk P w K mg base (L2.CX P w) 1 f fd ["_law_pen_here", "_law_many"] spDraw := by
  refine F.ok sc_l_draw (fun vs H Q E h => by obtain ⟨_, _, _, _, rfl, _⟩ := h; rfl) (fun cdv A outer s H vs Q E hr h => ?_)
  refine ⟨_, (pss_cons (ps_if (pt_cmpR op_gt (pe_ix ix_list (pv 0) pe_int (fun _ _ => rfl)) pe_int (nomark _))
 (pss_cons (ps_set (i := 5) sc_l_draw.nd rfl (by first | exact .inl rfl | exact .inr rfl) (pe_op op_mod (pe_callTy call_intG rfl T.b_int (by decide +kernel) (pa_cons (pe_ix ix_list (pv 0) pe_int (fun _ _ => rfl)) pa_nil)) (pv 1)))
 (pss_cons (ps_asg (pe_op op_fdiv (pe_callTy call_intG rfl T.b_int (by decide +kernel) (pa_cons (pe_ix ix_list (pv 0) pe_int (fun _ _ => rfl)) pa_nil)) (pv 1)) (pg_sub (pv 0) pe_int set_list))
 (pss_one (ps_ret (pv 5)))))
 pss_nil)
 (pss_cons (ps_set (i := 2) sc_l_draw.nd rfl (by first | exact .inl rfl | exact .inr rfl) (pe_ix ix_list (pv 0) pe_int (fun _ _ => rfl)))
 (pss_cons (ps_asg (pe_op op_add (pv 2) pe_int) (pg_sub (pv 0) pe_int set_list))
 (pss_cons (ps_set (i := 3) sc_l_draw.nd rfl (by first | exact .inl rfl | exact .inr rfl) (pe_op op_add (pe_op op_mul pe_int (pv 2)) pe_int))
 (C8.pss_cut (ps_if (pt_cmpR (op_neD hr.units) (pe_ix ix_list (pv 0) pe_int (fun _ _ => rfl)) (pe_lst pa_nil) (nomark _))
 (pss_one (ps_set (i := 3) sc_l_draw.nd rfl (by first | exact .inl rfl | exact .inr rfl) (pe_ix ix_list (pe_ix ix_list (pv 0) pe_int (fun _ _ => rfl)) (pe_op op_mod (pe_callTy call_intG rfl T.b_int (by decide +kernel) (pa_cons (pv 2) pa_nil)) (pe_callB call_lenG rfl T.b_len PySem.boot_len (pa_cons (pe_ix ix_list (pv 0) pe_int (fun _ _ => rfl)) pa_nil))) (fun _ _ => rfl))))
 pss_nil)
 (C8.pss_cut (ps_if (PW.pt (pw_and (pt_cmpR op_lt (pv 2) (pe_callB call_lenG rfl T.b_len PySem.boot_len (pa_cons (pe_ix ix_list (pv 0) pe_int (fun _ _ => rfl)) pa_nil)) (nomark _)) (pw_and1 (pt_cmpR op_ge (pe_callB call_absG rfl T.b_abs (by decide +kernel) (pa_cons (pv 3) pa_nil)) (pe_op op_pow pe_int pe_int) (nomark _)))))
 (pss_cons (ps_set (i := 6) sc_l_draw.nd rfl (by first | exact .inl rfl | exact .inr rfl) (pe_op op_add (pe_op op_mul pe_int (pe_op op_sub (pe_callB call_absG rfl T.b_abs (by decide +kernel) (pa_cons (pv 3) pa_nil)) (pe_op op_pow pe_int pe_int))) (pe_callTy call_intG rfl T.b_int (by decide +kernel) (pa_cons (pe_cmpR op_lt (pv 3) pe_int (nomark _)) pa_nil))))
 (pss_cons (ps_asg (pe_op op_fdiv (pe_callTy call_intG rfl T.b_int (by decide +kernel) (pa_cons (pv 6) pa_nil)) (pv 1)) (pg_sub (pv 0) pe_int set_list))
 (pss_one (ps_ret (pe_op op_mod (pe_callTy call_intG rfl T.b_int (by decide +kernel) (pa_cons (pv 6) pa_nil)) (pv 1))))))
 pss_nil)
 (pss_cons (ps_set (i := 4) sc_l_draw.nd rfl (by first | exact .inl rfl | exact .inr rfl) (pe_op op_mod (pe_callTy call_intG rfl T.b_int (by decide +kernel) (pa_cons (pe_op op_pow (pe_op op_add (pe_op op_add (pe_op op_mod (pe_callTy call_intG rfl T.b_int (by decide +kernel) (pa_cons (pv 3) pa_nil)) pe_int) (pe_op op_mul pe_int (pv 2))) pe_int) pe_int) pa_nil)) pe_int))
 (pss_cons (ps_set (i := 4) sc_l_draw.nd rfl (by first | exact .inl rfl | exact .inr rfl) (pe_op op_mod (pe_callTy call_intG rfl T.b_int (by decide +kernel) (pa_cons (pe_op op_pow (pe_op op_add (pe_op op_add (pe_op op_mul (pv 4) (pe_op op_add (pe_op op_mul pe_int (pv 2)) pe_int)) (pe_op op_mul (pe_op op_mul pe_int (pv 2)) (pv 2))) pe_int) pe_int) pa_nil)) pe_int))
 (pss_one (ps_ret (pe_op op_mod (pe_callTy call_intG rfl T.b_int (by decide +kernel) (pa_cons (pe_op op_fdiv (pv 4) pe_int) pa_nil)) (pv 1)))))))))))), ?_⟩
  try dsimp only [cxOf]
  obtain ⟨pn, c, m, n0, rfl, ⟨cs, i, r, hcp, hp, hc, h0, hi, hz⟩, hn1, hn2, hm, q0⟩ := h
  obtain ⟨n, en⟩ : ∃ n : Int, n = (n0 : Int) := ⟨_, rfl⟩
  rw [← en]
  have hn1 : 1 ≤ n := by omega
  have hn2 : n ≤ 1000000 := by omega
  have done : ∀ (k : Int) H', 0 ≤ k → k < n → Ep pn H H' → PenAt H' pn c (m + 1) → Q (.int k) H' := fun k H' k0 k1 e p => by
    have z := q0 k.toNat H' (by omega) e p
    rwa [Int.toNat_of_nonneg k0] at z
  have hcp2 : pn ≠ c := Ne.symm hcp
  have kp : ∀ {o : HO}, Ep pn H (upd H pn o) := fun {o} a u na z => (upd_ne na).trans z
  walk_at "go"
  refine g_ixL (sq_l hp) (atI_nat (j := 2) rfl) ?_
  walk_at "go"
  refine if_split (fun hr0 => ?_) (fun hr0 => ?_)
  · -- a digit of a great one
    walk_at "go"
    refine g_ixL (sq_l hp) (atI_nat (j := 2) rfl) ?_
    walk_at "go"
    refine g_ixL (sq_l hp) (atI_nat (j := 2) rfl) ?_
    walk_at "go"
    refine g_setL (j := 2) hp rfl ?_
    walk_at "go"
    exact done _ _ (Int.emod_nonneg _ (by omega)) (Int.emod_lt_of_pos _ (by omega)) kp ⟨cs, i, r / n, hcp, upd_same, (upd_ne hcp).trans hc, h0, by omega, hz⟩
  · walk_at "go"
    refine g_ixL (sq_l hp) (atI_nat (j := 1) rfl) ?_
    walk_at "go"
    refine g_setL (j := 1) hp rfl ?_
    walk_at "go"
    have hp2 : ∀ {xs : List V}, (upd H pn (.lst xs)) pn = some (.lst xs) := upd_same
    have hc2 : ∀ {xs : List V}, (upd H pn (.lst xs)) c = some (.lst (cs.map V.int)) := (upd_ne hcp).trans hc
    refine g_cut (fun σ' H' => ∃ d : Int, σ' = [some (.ref pn), some (.int n), some (.int i), some (.int d), none, none, none] ∧ Ep pn H H' ∧ H' pn = some (.lst [.ref c, .int (i + 1), .int r]) ∧ H' c = some (.lst (cs.map V.int))) ?_ ?_
    · walk_at "go"
      refine g_ixL (sq_l hp2) (atI_nat (j := 0) rfl) ?_
      walk_at "go"
      refine g_new (by decide) fun e H2 ne e2 he _ => ?_
      have hpe := e2.at (a := pn) hp2
      have hce := e2.at (a := c) hc2
      refine g_neN hce he ?_
      walk_at "go"
      refine ifn_split (fun h0 => ?_) (fun h0 => ?_)
      · walk_at "go"
        refine g_ixL (sq_l hpe) (atI_nat (j := 0) rfl) ?_
        walk_at "go"
        refine g_ixL (sq_l hpe) (atI_nat (j := 0) rfl) ?_
        walk_at "go"
        refine g_len (sq_l hce) ?_
        have hl : 0 < cs.length := by
          cases cs with
          | nil => exact absurd rfl h0
          | cons x t => simp
        refine g_I (by show (0 : Int) < ((cs.map V.int).length : Nat); rw [List.length_map]; omega) ?_
        obtain ⟨j, hj⟩ : ∃ j : Nat, i % (((cs.map V.int).length : Nat) : Int) = (j : Int) := ⟨(i % (((cs.map V.int).length : Nat) : Int)).toNat, (Int.toNat_of_nonneg (Int.emod_nonneg _ (by rw [List.length_map]; omega))).symm⟩
        have hlt : j < cs.length := by
          have z := Int.emod_lt_of_pos i (show (0 : Int) < (((cs.map V.int).length : Nat) : Int) by rw [List.length_map]; omega)
          rw [hj, List.length_map] at z
          omega
        rw [hj]
        refine g_ixL (v := .int cs[j]) (sq_l hce) (atI_nat (by rw [List.getElem?_map, List.getElem?_eq_getElem hlt]; rfl)) ?_
        walk_at "go"
        exact ⟨_, rfl, fun a u na z => e2 a u ((upd_ne na).trans z), hpe, hce⟩
      · walk_at "go"
        exact ⟨_, rfl, fun a u na z => e2 a u ((upd_ne na).trans z), hpe, hce⟩
    · rintro σ' H3 ⟨d, rfl, ep, hp3, hc3⟩
      refine g_cut (fun σ' H' => σ' = [some (.ref pn), some (.int n), some (.int i), some (.int d), none, none, none] ∧ H' = H3) ?_ ?_
      · walk_at "go"
        refine g_ixL (sq_l hp3) (atI_nat (j := 0) rfl) ?_
        walk_at "go"
        refine g_len (sq_l hc3) ?_
        walk_at "go"
        refine if_split (fun hlt => ?_) (fun hlt => ?_)
        · walk_at "go"
          refine if_split (fun hbig => ?_) (fun hbig => ?_)
          · walk_at "go"
            refine g_setL (j := 2) hp3 rfl ?_
            walk_at "go"
            exact done _ _ (Int.emod_nonneg _ (by omega)) (Int.emod_lt_of_pos _ (by omega)) (fun a u na z => (upd_ne na).trans (ep a u na z)) ⟨cs, i + 1, _, hcp, upd_same, (upd_ne hcp).trans hc3, by omega, by omega, hz⟩
          · walk_at "go"
            exact ⟨rfl, rfl⟩
        · walk_at "go"
          exact ⟨rfl, rfl⟩
      · rintro σ' H4 ⟨rfl, rfl⟩
        walk_at "go"
        refine g_I (mix_side (Int.emod_nonneg _ (by omega)) (Int.lt_trans (Int.emod_lt_of_pos _ (by omega)) (by omega)) h0 (by omega) ⟨by omega, by omega⟩ ⟨by omega, by omega⟩ ⟨by omega, by omega⟩) ?_
        walk_at "go"
        exact done _ _ (Int.emod_nonneg _ (by omega)) (Int.emod_lt_of_pos _ (by omega)) ep ⟨cs, i + 1, r, hcp, hp3, hc3, by omega, by omega, hz⟩
theorem c_l_draw (T : HD K mg) : Gbl P w K mg base "_law_draw" 1 spDraw := by
  obtain ⟨fd, F⟩ := T.fnd 34 rfl
  exact ⟨_, fd, ["_law_pen_here", "_law_many"], ok_l_draw T F, T.g_l_draw, F.kp, F.bindsN fun _ _ _ _ _ _ us hl => match us, hl with | [_, _], _ => rfl⟩
def spPick : Sp := fun vs H Q _ => ∃ (pn c a : Addr) (m : Nat) (xs : List V), vs = [.ref pn, .ref a] ∧ PenAt H pn c m ∧ H a = some (.lst xs) ∧ a ≠ pn ∧ 1 ≤ xs.length ∧ xs.length ≤ 1000000 ∧ m ≤ 900000 ∧ ∀ (k : Nat) x H', xs[k]? = some x → Ep pn H H' → PenAt H' pn c (m + 1) → Q x H'
abbrev N_l_pick : List Str := ["_law_pen_here", "_law_some"]
theorem sc_l_pick : FnScope N_l_pick ["_law_pen_here", "_law_some"] (defScope (topS 42)) := ⟨rfl, rfl, rfl, by decide +kernel, rfl, by decide +kernel, by decide +kernel⟩
theorem ok_l_pick {f : Addr} {fd : FuncData} (T : HD K mg) (F : FunD K "_law_pick" "_law_pick" (defArgs (topS 42)) (defBody (topS 42)) (defScope (topS 42)) [] [] f fd) : FnOk P w K mg base (L2.CX P w) 2 f fd ["_law_pen_here", "_law_some"] spPick := by
  refine F.ok sc_l_pick (fun vs H Q E h => by obtain ⟨_, _, _, _, _, rfl, _⟩ := h; rfl) (fun cdv A outer s H vs Q E hr h => ?_)
  refine ⟨_, (pss_one (ps_ret (pe_ix ix_list (pv 1) (pe_g (c_l_draw T) hr (by decide) rfl (pa_cons (pv 0) (pa_cons (pe_callB call_lenG rfl T.b_len PySem.boot_len (pa_cons (pv 1) pa_nil)) pa_nil))) (fun _ _ => rfl)))), ?_⟩
  try dsimp only [cxOf]
  obtain ⟨pn, c, a, m, xs, rfl, pe, ha, na, h1, h2, hm, q⟩ := h
  walk_at "go"
  refine g_len (sq_l ha) ?_
  walk_at "go"
  refine ⟨pn, c, m, xs.length, rfl, pe, h1, h2, hm, fun k H1 hk e1 p1 => ?_⟩
  obtain ⟨x, hx⟩ : ∃ x, xs[k]? = some x := ⟨xs[k], by simp [hk]⟩
  refine g_ixL (sq_l (e1 _ _ na ha)) (atI_nat hx) ?_
  exact q k x H1 hx e1 p1
theorem c_l_pick (T : HD K mg) : Gbl P w K mg base "_law_pick" 2 spPick := by
  obtain ⟨fd, F⟩ := T.fnd 35 rfl
  exact ⟨_, fd, ["_law_pen_here", "_law_some"], ok_l_pick T F, T.g_l_pick, F.kp, F.bindsN fun _ _ _ _ _ _ us hl => match us, hl with | [_, _], _ => rfl⟩
def litL : List (List Nat) := [[120, 111], [120, 111], [111, 120], [98, 97], [97, 98, 99], [122, 121, 120]]
theorem litL_ok : ∀ l ∈ litL, OkL l := by
  intro l h
  have z : (decide (2 ≤ l.length) && (decide (l.length ≤ 4) && (decide l.Nodup && l.all fun c => alpha.contains c))) = true := (show ∀ l ∈ litL, (decide (2 ≤ l.length) && (decide (l.length ≤ 4) && (decide l.Nodup && l.all fun c => alpha.contains c))) = true by decide +kernel) l h
  simp only [Bool.and_eq_true, decide_eq_true_eq, List.all_eq_true, List.contains_iff_mem] at z
  exact ⟨z.1, z.2.1, z.2.2.1, z.2.2.2⟩
def spLetters : Sp := fun vs H Q _ => ∃ (pn c : Addr) (m : Nat), vs = [.ref pn] ∧ PenAt H pn c m ∧ m ≤ 900000 ∧ ∀ ls H', OkL ls → Ep pn H H' → PenAt H' pn c (m + 1) → Q (.str (st ls)) H'
abbrev N_l_letters : List Str := ["_law_pen_here"]
theorem sc_l_letters : FnScope N_l_letters ["_law_pen_here"] (defScope (topS 43)) := ⟨rfl, rfl, rfl, by decide +kernel, rfl, by decide +kernel, by decide +kernel⟩
theorem ok_l_letters {f : Addr} {fd : FuncData} (T : HD K mg) (F : FunD K "_law_letters" "_law_letters" (defArgs (topS 43)) (defBody (topS 43)) (defScope (topS 43)) [] [] f fd) : FnOk P w K mg base (L2.CX P w) 3 f fd ["_law_pen_here"] spLetters := by
  refine F.ok sc_l_letters (fun vs H Q E h => by obtain ⟨_, _, _, rfl, _⟩ := h; rfl) (fun cdv A outer s H vs Q E hr h => ?_)
  refine ⟨_, (pss_one (ps_ret (pe_g (c_l_pick T) hr (by decide) rfl (pa_cons (pv 0) (pa_cons (pe_lst (pa_cons pe_str (pa_cons pe_str (pa_cons pe_str (pa_cons pe_str (pa_cons pe_str (pa_cons pe_str pa_nil))))))) pa_nil))))), ?_⟩
  try dsimp only [cxOf]
  obtain ⟨pn, c, m, rfl, pe, hm, q⟩ := h
  walk_at "go"
  refine g_new (show 6 ≤ 1000 by decide) fun a H1 n1 e1 ha _ => ?_
  walk_at "go"
  refine ⟨pn, c, a, m, litL.map fun l => V.str (st l), rfl, pe.ex e1, ha.trans rfl, (pe.fr n1).1, by decide, by decide, hm, fun k x H2 hk e2 p2 => ?_⟩
  rw [List.getElem?_map] at hk
  obtain ⟨l, hl, rfl⟩ := Option.map_eq_some_iff.mp hk
  exact q l H2 (litL_ok l (List.mem_of_getElem? hl)) (e1.ep.tr e2) p2
theorem c_l_letters (T : HD K mg) : Gbl P w K mg base "_law_letters" 3 spLetters := by
  obtain ⟨fd, F⟩ := T.fnd 36 rfl
  exact ⟨_, fd, ["_law_pen_here"], ok_l_letters T F, T.g_l_letters, F.kp, F.bindsN fun _ _ _ _ _ _ us hl => match us, hl with | [_], _ => rfl⟩
def spText : Sp := fun vs H Q _ => ∃ (ls : List Nat) (n : Nat), vs = [.str (st ls), .int (n : Int)] ∧ ls.length ≤ 4 ∧ ∀ H', Ex H H' → Q (.str (st (sub ls n))) H'
abbrev N_l_text : List Str := ["_law_letters_here", "_law_number", "_law_k"]
theorem sc_l_text : FnScope N_l_text ["_law_letters_here", "_law_number"] (defScope (topS 44)) := ⟨rfl, rfl, rfl, by decide +kernel, rfl, by decide +kernel, by decide +kernel⟩
theorem ok_l_text {f : Addr} {fd : FuncData} (T : HD K mg) (F : FunD K "_law_text" "_law_text" (defArgs (topS 44)) (defBody (topS 44)) (defScope (topS 44)) [] [] f fd) : FnOk P w K mg base (L2.CX P w) 1 f fd ["_law_letters_here", "_law_number"] spText := by
  refine F.ok sc_l_text (fun vs H Q E h => by obtain ⟨_, _, rfl, _⟩ := h; rfl) (fun cdv A outer s H vs Q E hr h => ?_)
  refine ⟨_, (pss_one (ps_ret (pe_joinG pe_str (pe_lc (own := [("_law_k", 2)]) (g := gName 2) rfl sc_l_text.nd (pi_range1 rfl T.b_range (pa_cons (pe_callB call_lenT rfl T.b_len PySem.boot_len (pa_cons (pv 0) pa_nil)) pa_nil)) (blkOk_by (own := [("_law_k", 2)]) (N := N_l_text) (sc := defScope (topS 44)) (by decide +kernel)) (fun _ _ _ _ _ => (pg_name (i := 2) sc_l_text.nd rfl (by first | exact .inl rfl | exact .inr rfl))) (fun _ _ _ _ _ => (pts_one (pt_cmpR op_eq (pe_op op_mod (pe_callTy call_intG rfl T.b_int (by decide +kernel) (pa_cons (pe_op op_shr (pv 1) (pv 2)) pa_nil)) pe_int) pe_int (nomark _)))) (fun _ _ _ _ _ => (pe_ix ix_str (pv 0) (pv 2) (fun _ _ => rfl))))))), ?_⟩
  try dsimp only [cxOf]
  obtain ⟨ls, n, rfl, l4, q⟩ := h
  walk_at "go"
  refine g_lenT (by rw [st_len]; omega) ?_
  rw [st_len]
  walk_at "go"
  refine g_r1 (by omega) (by omega) ?_
  rw [Int.toNat_natCast]
  refine g_lcV walk_r0 (fun i => decide (n / 2 ^ i % 2 = 1)) (fun i => .str (sgn (ls.getD i 0))) (fun _ _ => trivial) (show ls.length ≤ 4000 by omega) (fun i x H1 H2 hi e1 y => ?_) fun D H1 hD e1 hl => ?_
  · obtain ⟨rfl, rfl⟩ := y
    refine ⟨Ex.rfl', fun Yes No hy hno => ?_⟩
    walk_at "go"
    rw [shr_n, show (((n / 2 ^ i : Nat) : Int) % 2) = ((n / 2 ^ i % 2 : Nat) : Int) by omega, show (1 : Int) = ((1 : Nat) : Int) from rfl, dvn]
    refine if_split (fun h1 => ?_) (fun h1 => ?_)
    · walk_at "go"
      refine g_ixS (c := ls.getD i 0) (by simp [List.getD, hi]) (by omega) ?_
      exact hy (decide_eq_true h1) _ Ex.rfl'
    · exact hno (decide_eq_false h1) _ Ex.rfl'
  · rw [sub_given] at hl
    walk_at "go"
    refine g_jn (ys := (sub ls n).map sgn) (hl.trans (by rw [List.map_map]; rfl)) ?_ ?_
    · rw [sum_ones]
      have z := sub_len ls n
      have z2 : (("" : Str)).length = 0 := rfl
      rw [z2]
      omega
    · have z := q H1 e1
      rw [show (("" : Str)) = st [] from rfl, join_sgn]
      exact z
theorem c_l_text (T : HD K mg) : Gbl P w K mg base "_law_text" 1 spText := by
  obtain ⟨fd, F⟩ := T.fnd 37 rfl
  exact ⟨_, fd, ["_law_letters_here", "_law_number"], ok_l_text T F, T.g_l_text, F.kp, F.bindsN fun _ _ _ _ _ _ us hl => match us, hl with | [_, _], _ => rfl⟩
def spCellN : Sp := fun vs H Q _ => ∃ (pn c : Addr) (m k : Nat), vs = [.ref pn, .int (k : Int)] ∧ PenAt H pn c m ∧ m ≤ 800000 ∧ 1 ≤ k ∧ k ≤ 4 ∧ ∀ n H', Num k n → Ep pn H H' → PenAt H' pn c (m + 4) → Q (.int (n : Int)) H'
abbrev N_l_cell : List Str := ["_law_pen_here", "_law_many", "_law_full"]
theorem sc_l_cell : FnScope N_l_cell ["_law_pen_here", "_law_many"] (defScope (topS 45)) := ⟨rfl, rfl, rfl, by decide +kernel, rfl, by decide +kernel, by decide +kernel⟩
theorem ok_l_cell {f : Addr} {fd : FuncData} (T : HD K mg) (F : FunD K "_law_cell" "_law_cell" (defArgs (topS 45)) (defBody (topS 45)) (defScope (topS 45)) [] [] f fd) : FnOk P w K mg base (L2.CX P w) 3 f fd ["_law_pen_here", "_law_many"] spCellN := by
  refine F.ok sc_l_cell (fun vs H Q E h => by obtain ⟨_, _, _, _, rfl, _⟩ := h; rfl) (fun cdv A outer s H vs Q E hr h => ?_)
  refine ⟨_, (pss_cons (ps_set (i := 2) sc_l_cell.nd rfl (by first | exact .inl rfl | exact .inr rfl) (pe_op op_sub (pe_op op_shl pe_int (pv 1)) pe_int))
 (pss_one (ps_ret (pe_g (c_l_pick T) hr (by decide) rfl (pa_cons (pv 0) (pa_cons (pe_lst (pa_cons (pv 2) (pa_cons (pv 2) (pa_cons (pe_op op_shl pe_int (pe_g (c_l_draw T) hr (by decide) rfl (pa_cons (pv 0) (pa_cons (pv 1) pa_nil)))) (pa_cons (pe_op op_shl pe_int (pe_g (c_l_draw T) hr (by decide) rfl (pa_cons (pv 0) (pa_cons (pv 1) pa_nil)))) (pa_cons (pe_op op_add pe_int (pe_g (c_l_draw T) hr (by decide) rfl (pa_cons (pv 0) (pa_cons (pv 2) pa_nil)))) pa_nil)))))) pa_nil)))))), ?_⟩
  try dsimp only [cxOf]
  obtain ⟨pn, c, m, k, rfl, pe, hm, k1, k4, q⟩ := h
  have p4 : 2 ^ k ≤ 2 ^ 4 := Nat.pow_le_pow_right (by decide) k4
  have p1 : 2 ^ 1 ≤ 2 ^ k := Nat.pow_le_pow_right (by decide) k1
  walk_at "go"
  rw [shl_n, show ((2 ^ k : Nat) : Int) - 1 = ((2 ^ k - 1 : Nat) : Int) by omega]
  walk_at "go"
  refine ⟨pn, c, m, k, rfl, pe, by omega, by omega, by omega, fun a H1 ha e1 p1' => ?_⟩
  walk_at "go"
  rw [shl_n]
  walk_at "go"
  refine ⟨pn, c, m + 1, k, rfl, p1', by omega, by omega, by omega, fun b H2 hb e2 p2 => ?_⟩
  walk_at "go"
  rw [shl_n]
  walk_at "go"
  refine ⟨pn, c, m + 2, 2 ^ k - 1, rfl, p2, by omega, by omega, by omega, fun d H3 hd e3 p3 => ?_⟩
  walk_at "go"
  refine g_new (show 5 ≤ 1000 by decide) fun l H4 n4 e4 hl _ => ?_
  walk_at "go"
  refine ⟨pn, c, l, m + 3, _, rfl, p3.ex e4, hl, (p3.fr n4).1, by simp, by simp, by omega, fun j x H5 hj e5 p5 => ?_⟩
  have ep := ((e1.tr e2).tr e3).tr (e4.ep.tr e5)
  have pa : 2 ^ a < 2 ^ k := Nat.pow_lt_pow_right (by decide) ha
  have pb : 2 ^ b < 2 ^ k := Nat.pow_lt_pow_right (by decide) hb
  have oa := Nat.two_pow_pos a
  have ob := Nat.two_pow_pos b
  match j, hj with
  | 0, hj => cases hj; exact q _ H5 ⟨by omega, by omega⟩ ep p5
  | 1, hj => cases hj; exact q _ H5 ⟨by omega, by omega⟩ ep p5
  | 2, hj => cases hj; exact q _ H5 ⟨by omega, by omega⟩ ep p5
  | 3, hj => cases hj; exact q _ H5 ⟨by omega, by omega⟩ ep p5
  | 4, hj =>
    cases hj
    rw [show (1 : Int) + (d : Int) = ((1 + d : Nat) : Int) by omega]
    exact q _ H5 ⟨by omega, by omega⟩ ep p5
  | j + 5, hj => cases hj
theorem c_l_cell (T : HD K mg) : Gbl P w K mg base "_law_cell" 3 spCellN := by
  obtain ⟨fd, F⟩ := T.fnd 38 rfl
  exact ⟨_, fd, ["_law_pen_here", "_law_many"], ok_l_cell T F, T.g_l_cell, F.kp, F.bindsN fun _ _ _ _ _ _ us hl => match us, hl with | [_, _], _ => rfl⟩
def spPlan : Sp := fun vs H Q _ => ∃ (pn c : Addr) (m k L : Nat), vs = [.ref pn, .int (k : Int), .int (L : Int)] ∧ PenAt H pn c m ∧ m ≤ 700000 ∧ 1 ≤ k ∧ k ≤ 4 ∧ 1 ≤ L ∧ L ≤ 4 ∧
  ∀ p d H', DOk k d → H p = none → Ep pn H H' → PlanAt H' p d → PenAt H' pn c (m + 30) → Q (.ref p) H'
abbrev N_l_plan : List Str := ["_law_pen_here", "_law_many", "_law_longest", "_law_cells", "_law_spot", "_law_index", "_law_ends", "_law_k"]
theorem sc_l_plan : FnScope N_l_plan ["_law_pen_here", "_law_many", "_law_longest"] (defScope (topS 47)) := ⟨rfl, rfl, rfl, by decide +kernel, rfl, by decide +kernel, by decide +kernel⟩
theorem ok_l_plan {f : Addr} {fd : FuncData} (T : HD K mg) (F : FunD K "_law_plan" "_law_plan" (defArgs (topS 47)) (defBody (topS 47)) (defScope (topS 47)) [] [] f fd) : FnOk P w K mg base (L2.CX P w) 4 f fd ["_law_pen_here", "_law_many", "_law_longest"] spPlan := by
  refine F.ok sc_l_plan (fun vs H Q E h => by obtain ⟨_, _, _, _, _, rfl, _⟩ := h; rfl) (fun cdv A outer s H vs Q E hr h => ?_)
  refine ⟨_, (pss_cons (ps_set (i := 3) sc_l_plan.nd rfl (by first | exact .inl rfl | exact .inr rfl) (pe_callTy call_tupL rfl T.b_tuple (by decide +kernel) (pa_cons (pe_lc (own := [("_law_k", 7)]) (g := gName 7) rfl sc_l_plan.nd (pi_range1 rfl T.b_range (pa_cons (pe_op op_add pe_int (pe_g (c_l_draw T) hr (by decide) rfl (pa_cons (pv 0) (pa_cons (pv 2) pa_nil)))) pa_nil)) (blkOk_by (own := [("_law_k", 7)]) (N := N_l_plan) (sc := defScope (topS 47)) (by decide +kernel)) (fun _ _ _ _ _ => (pg_name (i := 7) sc_l_plan.nd rfl (by first | exact .inl rfl | exact .inr rfl))) (fun _ _ _ _ _ => pts_nil) (fun _ _ _ _ _ => (pe_g (c_l_cell T) hr (by decide) rfl (pa_cons (pv 0) (pa_cons (pv 1) pa_nil))))) pa_nil)))
 (pss_cons (ps_set (i := 4) sc_l_plan.nd rfl (by first | exact .inl rfl | exact .inr rfl) (pe_g (c_l_draw T) hr (by decide) rfl (pa_cons (pv 0) (pa_cons (pe_callB call_lenG rfl T.b_len PySem.boot_len (pa_cons (pv 3) pa_nil)) pa_nil))))
 (pss_cons (ps_set (i := 5) sc_l_plan.nd rfl (by first | exact .inl rfl | exact .inr rfl) (pe_g (c_l_pick T) hr (by decide) rfl (pa_cons (pv 0) (pa_cons (pe_lc (own := [("_law_k", 7)]) (g := gName 7) rfl sc_l_plan.nd (pi_range1 rfl T.b_range (pa_cons (pv 1) pa_nil)) (blkOk_by (own := [("_law_k", 7)]) (N := N_l_plan) (sc := defScope (topS 47)) (by decide +kernel)) (fun _ _ _ _ _ => (pg_name (i := 7) sc_l_plan.nd rfl (by first | exact .inl rfl | exact .inr rfl))) (fun _ _ _ _ _ => (pts_one (pt_cmpR op_eq (pe_op op_mod (pe_callTy call_intG rfl T.b_int (by decide +kernel) (pa_cons (pe_op op_shr (pe_ix (ix_tupK (K := K) rfl) (pv 3) (pv 4) (fun _ _ => rfl)) (pv 7)) pa_nil)) pe_int) pe_int (nomark _)))) (fun _ _ _ _ _ => (pv 7))) pa_nil))))
 (pss_cons (ps_set (i := 6) sc_l_plan.nd rfl (by first | exact .inl rfl | exact .inr rfl) (pe_g (c_l_draw T) hr (by decide) rfl (pa_cons (pv 0) (pa_cons pe_int pa_nil))))
 (pss_one (ps_ret (pe_tup (pa_cons (pv 3) (pa_cons (pv 4) (pa_cons (pv 5) (pa_cons (pe_cmpR op_in_seq (pv 6) (pe_tup (pa_cons pe_int (pa_cons pe_int pa_nil))) rfl) (pa_cons (pe_cmpR op_in_seq (pv 6) (pe_tup (pa_cons pe_int (pa_cons pe_int pa_nil))) rfl) pa_nil)))))))))))), ?_⟩
  try dsimp only [cxOf]
  obtain ⟨pn, c, m, k, L, rfl, pe, hm, k1, k4, l1, l4, q⟩ := h
  walk_at "go"
  refine ⟨pn, c, m, L, rfl, pe, by omega, by omega, by omega, fun a H1 ha e1 p1 => ?_⟩
  walk_at "go"
  rw [show (1 : Int) + (a : Int) = ((1 + a : Nat) : Int) by omega]
  refine g_r1 (by omega) (by omega) ?_
  rw [Int.toNat_natCast]
  refine g_lcP walk_r0 (show 1 + a ≤ 4001 by omega) (k := 4) p1 (fun i v => ∃ n : Nat, v = .int (n : Int) ∧ Num k n) (fun _ _ => trivial) (fun i x H2 H3 hi e2 p2 y Yes No hy => ?_) fun D acc H2 hD e2 hl al hc p2 => ?_
  · obtain ⟨rfl, rfl⟩ := y
    walk_at "go"
    exact ⟨pn, c, _, k, rfl, p2, by omega, k1, k4, fun n H4 hn e4 p4 => hy _ H4 ⟨n, rfl, hn⟩ e4 (p4.le (by omega))⟩
  · obtain ⟨ns, rfl, hn⟩ := nats_of hc
    rw [List.length_map] at al
    have hns : Nums k ns := fun n h => by
      obtain ⟨i, hi⟩ := List.mem_iff_getElem?.mp h
      exact hn i n hi
    walk_at "go"
    refine g_tupL hl fun tc H3 n3 e3 htc _ => ?_
    have p3 := p2.ex e3
    walk_at "go"
    refine g_lenU (sq_t htc) ?_
    rw [List.length_map]
    walk_at "go"
    refine ⟨pn, c, _, ns.length, rfl, p3, by omega, by omega, by omega, fun b H4 hb e4 p4 => ?_⟩
    have htc4 := e4 _ _ (p3.tup htc) htc
    have hbn : ns[b]? = some (ns.getD b 0) := by simp [List.getD, hb]
    have nb := hns _ (List.mem_of_getElem? hbn)
    walk_at "go"
    refine g_r1 (by omega) (by omega) ?_
    rw [Int.toNat_natCast]
    refine g_lcV walk_r0 (fun i => decide (ns.getD b 0 / 2 ^ i % 2 = 1)) (fun i => .int (i : Int)) (fun _ _ => trivial) (show k ≤ 4000 by omega) (fun i x H5 H6 hi e5 y => ?_) fun D2 H5 hD5 e5 hl5 => ?_
    · obtain ⟨rfl, rfl⟩ := y
      refine ⟨Ex.rfl', fun Yes No hy hno => ?_⟩
      walk_at "go"
      refine g_ixU (v := .int ((ns.getD b 0 : Nat) : Int)) (sq_t (e5 _ _ htc4)) (atI_nat (by rw [List.getElem?_map, hbn]; rfl)) ?_
      walk_at "go"
      rw [shr_n, show (((ns.getD b 0 / 2 ^ i : Nat) : Int) % 2) = ((ns.getD b 0 / 2 ^ i % 2 : Nat) : Int) by omega, show (1 : Int) = ((1 : Nat) : Int) from rfl, dvn]
      refine if_split (fun h1 => ?_) (fun h1 => ?_)
      · walk_at "go"
        exact hy (decide_eq_true h1) _ Ex.rfl'
      · exact hno (decide_eq_false h1) _ Ex.rfl'
    · obtain ⟨i0, hi0, z0⟩ := some_bit nb
      walk_at "go"
      refine ⟨pn, c, D2, _, _, rfl, p4.ex e5, hl5, (p4.fr hD5).1, given_pos hi0 (decide_eq_true z0), Nat.le_trans (given_len _ _ _) (by omega), by omega, fun j x H6 hj e6 p6 => ?_⟩
      obtain ⟨i, hi, fi, rfl⟩ := given_mem hj
      have fi := of_decide_eq_true fi
      walk_at "go"
      refine ⟨pn, c, _, 8, rfl, p6, by omega, by omega, by omega, fun e H7 he e7 p7 => ?_⟩
      walk_at "go"
      refine g_new (show 2 ≤ 1000 by decide) fun t1 H8 n8 e8 ht8 _ => ?_
      walk_at "go"
      refine g_inU ht8 rfl rfl ?_
      walk_at "go"
      refine g_new (show 2 ≤ 1000 by decide) fun t2 H9 n9 e9 ht9 _ => ?_
      walk_at "go"
      refine g_inU ht9 rfl rfl ?_
      walk_at "go"
      refine g_new (show 5 ≤ 1000 by decide) fun t3 H10 n10 e10 ht10 _ => ?_
      have p5 := p4.ex e5
      have htc10 := e10 _ _ (e9 _ _ (e8 _ _ (e7 _ _ (p6.tup (e6 _ _ (p5.tup (e5 _ _ htc4)) (e5 _ _ htc4))) (e6 _ _ (p5.tup (e5 _ _ htc4)) (e5 _ _ htc4)))))
      have ep := (((e1.tr e2).tr e3.ep).tr e4).tr ((e5.ep.tr e6).tr (e7.tr ((e8.tr e9).tr e10).ep))
      have no : H t3 = none := by
        cases e : H t3 with
        | none => rfl
        | some o =>
          have z := ((((e1.tr e2).tr e3.ep).tr e4).tr ((e5.ep.tr e6).tr (e7.tr (e8.tr e9).ep))) t3 o (((p7.ex e8).ex e9).fr n10).1 e
          rw [n10] at z
          cases z
      exact q t3 ⟨ns, b, i, _, _⟩ H10 ⟨by show 1 ≤ ns.length; omega, by show ns.length ≤ 4; omega, hns, hb, hi, fi⟩ no ep ⟨tc, ht10, htc10⟩ ((((p7.ex e8).ex e9).ex e10).le (by omega))
theorem c_l_plan (T : HD K mg) : Gbl P w K mg base "_law_plan" 4 spPlan := by
  obtain ⟨fd, F⟩ := T.fnd 39 rfl
  exact ⟨_, fd, ["_law_pen_here", "_law_many", "_law_longest"], ok_l_plan T F, T.g_l_plan, F.kp, F.bindsN fun _ _ _ _ _ _ us hl => match us, hl with | [_, _, _], _ => rfl⟩
theorem mkR {K : PySem.W.Frag} {H : Hp} {Q : VK} {va p : Addr} {ls : List Nat} {xs : List V} {d : RD} {c : Nat} (v : ValsAt K H va ls) (ok : OkL ls) (hp : H p = some (.lst xs)) (ht : TellsAll K H ls xs d.ns) (dk : DOk ls.length d) (hc : ls[d.j]? = some c)
    (q : ∀ x H', Ex H H' → H x = none → RuleAt K H' x ls d → Q (.ref x) H') : kMkK (CR K) (spRInit K) [.ref va, .ref p, .int (d.k : Int), .str (sgn c)] [.bl d.l, .bl d.r] H Q := by
  intro x dx hx hdx ne
  have e1 : Ex H (upd (upd H dx (.own x)) x (.ins (CR K) dx [])) := fun a o z => (upd_ne (ne_of_none z hx)).trans ((upd_ne (ne_of_none z hdx)).trans z)
  refine ⟨x, dx, va, p, ls, xs, d, c, rfl, upd_same, v.ex e1, ok, e1 _ _ hp, ht.kp e1.kept, dk.n1, dk.n4, dk.hk, hc, dk.bit, fun H2 ep l => ⟨rfl, ?_⟩⟩
  exact q x H2 (fun a o z => ep a o (ne_of_none z hx) (e1 a o z)) hx l
def spRule (K : PySem.W.Frag) : Sp := fun vs H Q _ => ∃ (va p : Addr) (ls : List Nat) (d : RD), vs = [.ref va, .ref p] ∧ ValsAt K H va ls ∧ OkL ls ∧ PlanAt H p d ∧ DOk ls.length d ∧ ∀ x H', Ex H H' → RuleAt K H' x ls d → Q (.ref x) H'
abbrev N_l_rule : List Str := ["_law_ground", "_law_plan_here", "_law_texts", "_law_cells", "_law_spot", "_law_index", "_law_is_left", "_law_is_right", "_law_number"]
theorem sc_l_rule : FnScope N_l_rule ["_law_ground", "_law_plan_here"] (defScope (topS 48)) := ⟨rfl, rfl, rfl, by decide +kernel, rfl, by decide +kernel, by decide +kernel⟩
theorem ok_l_rule {f : Addr} {fd : FuncData} (T : HD K mg) (F : FunD K "_law_rule" "_law_rule" (defArgs (topS 48)) (defBody (topS 48)) (defScope (topS 48)) [] [] f fd) : FnOk P w K mg base (L2.CX P w) 8 f fd ["_law_ground", "_law_plan_here"] (spRule K) := by
  refine F.ok sc_l_rule (fun vs H Q E h => by obtain ⟨_, _, _, _, rfl, _⟩ := h; rfl) (fun cdv A outer s H vs Q E hr h => ?_)
  refine ⟨_, (pss_cons (ps_asg (pv 1) (pg_tup rfl (pgs_cons (pg_name (i := 3) sc_l_rule.nd rfl (by first | exact .inl rfl | exact .inr rfl)) (pgs_cons (pg_name (i := 4) sc_l_rule.nd rfl (by first | exact .inl rfl | exact .inr rfl)) (pgs_cons (pg_name (i := 5) sc_l_rule.nd rfl (by first | exact .inl rfl | exact .inr rfl)) (pgs_cons (pg_name (i := 6) sc_l_rule.nd rfl (by first | exact .inl rfl | exact .inr rfl)) (pgs_cons (pg_name (i := 7) sc_l_rule.nd rfl (by first | exact .inl rfl | exact .inr rfl)) pgs_nil)))))))
 (pss_cons (ps_setLc (i := 2) (own := [("_law_number", 8)]) (g := gName 8) rfl sc_l_rule.nd rfl rfl (sw_true rfl rfl rfl (by decide +kernel)) (pi_tup (pv 3)) (blkOk_by (own := [("_law_number", 8)]) (N := N_l_rule) (sc := defScope (topS 48)) (by decide +kernel)) (fun _ _ _ _ _ => (pg_name (i := 8) sc_l_rule.nd rfl (by first | exact .inl rfl | exact .inr rfl))) (fun _ _ _ _ _ => pts_nil) (fun _ _ _ _ _ => (pe_g (c_l_text T) hr (by decide) rfl (pa_cons (pe_fldK (K := K) rfl (pv 0) rfl) (pa_cons (pv 8) pa_nil)))))
 (pss_one (ps_ret (pe_nk (c_Rule T) hr (by decide) rfl (pa_cons (pv 0) (pa_cons (pv 2) (pa_cons (pv 4) (pa_cons (pe_ix ix_str (pe_fld (pv 0) rfl) (pv 5) (fun _ _ => rfl)) pa_nil)))) (pk_cons (pv 6) (pk_cons (pv 7) pk_nil))))))), ?_⟩
  try dsimp only [cxOf]
  obtain ⟨va, p, ls, d, rfl, ⟨dv, hv⟩, ok, ⟨tc, hp, htc⟩, dk, q⟩ := h
  have l4 := ok.l4
  have n4 := dk.n4
  walk_at "go"
  refine g_gtup (sq_t hp) rfl ?_
  walk_at "go"
  refine g_iU (sq_t htc) ?_
  refine g_lcV walk_tup (fun _ => true) (fun i => .str (st (sub ls (d.ns.getD i 0)))) (fun H' e => sq_t (e _ _ htc)) (by rw [List.length_map]; omega) (fun i x H1 H2 hi e1 y => ?_) fun D H2 hD e2 hl => ?_
  · obtain ⟨rfl, hx⟩ := y
    obtain ⟨rfl, hi2⟩ := nat_item hx
    refine ⟨Ex.rfl', fun Yes No hy _ => ?_⟩
    walk_at "go"
    exact ⟨ls, _, rfl, l4, fun H4 e4 => hy rfl H4 e4⟩
  · rw [List.length_map] at hl
    have hl := hl.trans (congrArg (fun z => some (HO.lst z)) (given_map d.ns 0 fun n => V.str (st (sub ls n))))
    have hj : ls[d.j]? = some (ls.getD d.j 0) := by have := dk.hj; simp [List.getD, this]
    walk_at "go"
    refine g_ixS hj (by omega) ?_
    walk_at "go"
    refine mkR ⟨dv, e2 _ _ hv⟩ ok hl (tells_texts dk.ns) dk hj fun x H3 e3 _ rx => ?_
    walk_at "go"
    exact q x H3 (e2.tr e3) rx
theorem c_l_rule (T : HD K mg) : Gbl P w K mg base "_law_rule" 8 (spRule K) := by
  obtain ⟨fd, F⟩ := T.fnd 40 rfl
  exact ⟨_, fd, ["_law_ground", "_law_plan_here"], ok_l_rule T F, T.g_l_rule, F.kp, F.bindsN fun _ _ _ _ _ _ us hl => match us, hl with | [_, _], _ => rfl⟩
def spLine (K : PySem.W.Frag) : Sp := fun vs H Q _ => ∃ (va p : Addr) (ls ns : List Nat), vs = [.ref va, .ref p] ∧ ValsAt K H va ls ∧ OkL ls ∧ RowAt H p ls.length ns ∧ 1 ≤ ns.length ∧ ns.length ≤ 4000 ∧ ∀ x H', Ex H H' → LineAt K H' x ls ns → Q (.ref x) H'
abbrev N_l_line : List Str := ["_law_ground", "_law_row_here", "_law_number"]
theorem sc_l_line : FnScope N_l_line ["_law_ground", "_law_row_here"] (defScope (topS 49)) := ⟨rfl, rfl, rfl, by decide +kernel, rfl, by decide +kernel, by decide +kernel⟩
theorem ok_l_line {f : Addr} {fd : FuncData} (T : HD K mg) (F : FunD K "_law_line" "_law_line" (defArgs (topS 49)) (defBody (topS 49)) (defScope (topS 49)) [] [] f fd) : FnOk P w K mg base (L2.CX P w) 8 f fd ["_law_ground", "_law_row_here"] (spLine K) := by
  refine F.ok sc_l_line (fun vs H Q E h => by obtain ⟨_, _, _, _, rfl, _⟩ := h; rfl) (fun cdv A outer s H vs Q E hr h => ?_)
  refine ⟨_, (pss_one (ps_ret (pe_n (c_Line T) hr (by decide) rfl (pa_cons (pv 0) (pa_cons (pe_lc (own := [("_law_number", 2)]) (g := gName 2) rfl sc_l_line.nd (pi_list (pv 1)) (blkOk_by (own := [("_law_number", 2)]) (N := N_l_line) (sc := defScope (topS 49)) (by decide +kernel)) (fun _ _ _ _ _ => (pg_name (i := 2) sc_l_line.nd rfl (by first | exact .inl rfl | exact .inr rfl))) (fun _ _ _ _ _ => pts_nil) (fun _ _ _ _ _ => (pe_g (c_l_text T) hr (by decide) rfl (pa_cons (pe_fldK (K := K) rfl (pv 0) rfl) (pa_cons (pv 2) pa_nil))))) pa_nil))))), ?_⟩
  try dsimp only [cxOf]
  obtain ⟨va, p, ls, ns, rfl, ⟨dv, hv⟩, ok, ⟨hp, hn⟩, n1, n4, q⟩ := h
  have l4 := ok.l4
  walk_at "go"
  refine g_iL (sq_l hp) ?_
  refine g_lcV walk_list (fun _ => true) (fun i => .str (st (sub ls (ns.getD i 0)))) (fun H' e => sq_l (e _ _ hp)) (by rw [List.length_map]; omega) (fun i x H1 H2 hi e1 y => ?_) fun D H2 hD e2 hl => ?_
  · obtain ⟨rfl, hx⟩ := y
    obtain ⟨rfl, hi2⟩ := nat_item hx
    refine ⟨Ex.rfl', fun Yes No hy _ => ?_⟩
    walk_at "go"
    exact ⟨ls, _, rfl, l4, fun H4 e4 => hy rfl H4 e4⟩
  · rw [List.length_map] at hl
    have hl := hl.trans (congrArg (fun z => some (HO.lst z)) (given_map ns 0 fun n => V.str (st (sub ls n))))
    walk_at "go"
    refine mkL ⟨dv, e2 _ _ hv⟩ ok hl (tells_texts hn) n1 (by omega) fun x H3 e3 _ lx => ?_
    walk_at "go"
    exact q x H3 (e2.tr e3) lx
theorem c_l_line (T : HD K mg) : Gbl P w K mg base "_law_line" 8 (spLine K) := by
  obtain ⟨fd, F⟩ := T.fnd 41 rfl
  exact ⟨_, fd, ["_law_ground", "_law_row_here"], ok_l_line T F, T.g_l_line, F.kp, F.bindsN fun _ _ _ _ _ _ us hl => match us, hl with | [_, _], _ => rfl⟩
def spPart : Sp := fun vs H Q _ => ∃ (pn c : Addr) (m n : Nat), vs = [.ref pn, .int (n : Int)] ∧ PenAt H pn c m ∧ m ≤ 800000 ∧ 1 ≤ n ∧ n ≤ 15 ∧ ∀ k H', 1 ≤ k → k &&& n = k → Ep pn H H' → PenAt H' pn c (m + 1) → Q (.int (k : Int)) H'
abbrev N_l_part : List Str := ["_law_pen_here", "_law_number", "_law_k"]
theorem sc_l_part : FnScope N_l_part ["_law_pen_here", "_law_number"] (defScope (topS 50)) := ⟨rfl, rfl, rfl, by decide +kernel, rfl, by decide +kernel, by decide +kernel⟩
theorem ok_l_part {f : Addr} {fd : FuncData} (T : HD K mg) (F : FunD K "_law_part" "_law_part" (defArgs (topS 50)) (defBody (topS 50)) (defScope (topS 50)) [] [] f fd) : FnOk P w K mg base (L2.CX P w) 3 f fd ["_law_pen_here", "_law_number"] spPart := by
  refine F.ok sc_l_part (fun vs H Q E h => by obtain ⟨_, _, _, _, rfl, _⟩ := h; rfl) (fun cdv A outer s H vs Q E hr h => ?_)
  refine ⟨_, (pss_one (ps_ret (pe_g (c_l_pick T) hr (by decide) rfl (pa_cons (pv 0) (pa_cons (pe_op op_catG (pe_lst (pa_cons (pv 1) pa_nil)) (pe_lc (own := [("_law_k", 2)]) (g := gName 2) rfl sc_l_part.nd (pi_range2 rfl T.b_range (pa_cons pe_int (pa_cons (pe_op op_add (pv 1) pe_int) pa_nil))) (blkOk_by (own := [("_law_k", 2)]) (N := N_l_part) (sc := defScope (topS 50)) (by decide +kernel)) (fun _ _ _ _ _ => (pg_name (i := 2) sc_l_part.nd rfl (by first | exact .inl rfl | exact .inr rfl))) (fun _ _ _ _ _ => (pts_one (pt_cmpR op_eq (pe_op op_and (pv 2) (pv 1)) (pv 2) (nomark _)))) (fun _ _ _ _ _ => (pv 2)))) pa_nil))))), ?_⟩
  try dsimp only [cxOf]
  obtain ⟨pn, c, m, n, rfl, pe, hm, n1, n15, q⟩ := h
  walk_at "go"
  refine g_new (show 1 ≤ 1000 by decide) fun a H1 h1 e1 ha _ => ?_
  walk_at "go"
  refine g_r2 (by omega) (by omega) ?_
  rw [show ((n : Int) + 1 - 1).toNat = n by omega]
  refine g_lcV walk_r1 (fun i => decide ((i + 1) &&& n = i + 1)) (fun i => .int ((i + 1 : Nat) : Int)) (fun _ _ => trivial) (show n ≤ 4000 by omega) (fun i x H2 H3 hi e2 y => ?_) fun D H2 hD e2 hl => ?_
  · obtain ⟨rfl, rfl⟩ := y
    refine ⟨Ex.rfl', fun Yes No hy hno => ?_⟩
    walk_at "go"
    rw [and_n, dvn]
    refine if_split (fun h1 => ?_) (fun h1 => ?_)
    · walk_at "go"
      exact hy (decide_eq_true h1) _ Ex.rfl'
    · exact hno (decide_eq_false h1) _ Ex.rfl'
  · walk_at "go"
    refine g_cat (e2 _ _ ha) hl (by have := given_len n (fun i => decide ((i + 1) &&& n = i + 1)) (fun i => .int ((i + 1 : Nat) : Int)); simp only [List.length_singleton]; omega) fun b H3 h3 e3 hb => ?_
    have p3 := ((pe.ex e1).ex e2).ex e3
    refine ⟨pn, c, b, m, _, rfl, p3, hb, (((pe.ex e1).ex e2).fr h3).1, by simp, ?_, by omega, fun j x H4 hj e4 p4 => ?_⟩
    · have := given_len n (fun i => decide ((i + 1) &&& n = i + 1)) (fun i => .int ((i + 1 : Nat) : Int))
      simp only [List.length_append, List.length_singleton]
      omega
    · have ep := ((e1.tr e2).tr e3).ep.tr e4
      match j, hj with
      | 0, hj =>
        cases hj
        exact q n H4 n1 (Nat.and_self n) ep p4
      | j + 1, hj =>
        obtain ⟨i, hi, fi, rfl⟩ := given_mem (show (given n (fun i => decide ((i + 1) &&& n = i + 1)) (fun i => .int ((i + 1 : Nat) : Int)))[j]? = some x by simpa using hj)
        exact q (i + 1) H4 (by omega) (of_decide_eq_true fi) ep p4
theorem c_l_part (T : HD K mg) : Gbl P w K mg base "_law_part" 3 spPart := by
  obtain ⟨fd, F⟩ := T.fnd 42 rfl
  exact ⟨_, fd, ["_law_pen_here", "_law_number"], ok_l_part T F, T.g_l_part, F.kp, F.bindsN fun _ _ _ _ _ _ us hl => match us, hl with | [_, _], _ => rfl⟩
def spNear : Sp := fun vs H Q _ => ∃ (pn c p : Addr) (m k s : Nat) (d : RD), vs = [.ref pn, .int (k : Int), .ref p, .int (s : Int)] ∧ PenAt H pn c m ∧ m ≤ 700000 ∧ 1 ≤ k ∧ k ≤ 4 ∧ PlanAt H p d ∧ DOk k d ∧ 1 ≤ s ∧ s ≤ 10 ∧
  ∀ r ns H', H r = none → ns.length = s → Ep pn H H' → RowAt H' r k ns → PenAt H' pn c (m + 50) → Q (.ref r) H'
abbrev N_l_near : List Str := ["_law_pen_here", "_law_many", "_law_plan_here", "_law_size", "_law_row_here", "_law_begin", "_law_k", "_law_number"]
theorem sc_l_near : FnScope N_l_near ["_law_pen_here", "_law_many", "_law_plan_here", "_law_size"] (defScope (topS 51)) := ⟨rfl, rfl, rfl, by decide +kernel, rfl, by decide +kernel, by decide +kernel⟩
theorem ok_l_near {f : Addr} {fd : FuncData} (T : HD K mg) (F : FunD K "_law_near" "_law_near" (defArgs (topS 51)) (defBody (topS 51)) (defScope (topS 51)) [] [] f fd) : FnOk P w K mg base (L2.CX P w) 4 f fd ["_law_pen_here", "_law_many", "_law_plan_here", "_law_size"] spNear := by
  refine F.ok sc_l_near (fun vs H Q E h => by obtain ⟨_, _, _, _, _, _, _, rfl, _⟩ := h; rfl) (fun cdv A outer s H vs Q E hr h => ?_)
  refine ⟨_, (pss_cons (ps_setLc (i := 4) (own := [("_law_k", 6)]) (g := gName 6) rfl sc_l_near.nd rfl rfl (sw_true rfl rfl rfl (by decide +kernel)) (pi_range1 rfl T.b_range (pa_cons (pv 3) pa_nil)) (blkOk_by (own := [("_law_k", 6)]) (N := N_l_near) (sc := defScope (topS 51)) (by decide +kernel)) (fun _ _ _ _ _ => (pg_name (i := 6) sc_l_near.nd rfl (by first | exact .inl rfl | exact .inr rfl))) (fun _ _ _ _ _ => pts_nil) (fun _ _ _ _ _ => (pe_g (c_l_cell T) hr (by decide) rfl (pa_cons (pv 0) (pa_cons (pv 1) pa_nil)))))
 (pss_cons (ps_set (i := 5) sc_l_near.nd rfl (by first | exact .inl rfl | exact .inr rfl) (pe_g (c_l_pick T) hr (by decide) rfl (pa_cons (pv 0) (pa_cons (pe_lst (pa_cons pe_int (pa_cons (pe_op op_sub (pv 3) (pe_callB call_lenG rfl T.b_len PySem.boot_len (pa_cons (pe_ix ix_tup (pv 2) pe_int (fun _ _ => rfl)) pa_nil))) (pa_cons (pe_g (c_l_draw T) hr (by decide) rfl (pa_cons (pv 0) (pa_cons (pv 3) pa_nil))) pa_nil)))) pa_nil))))
 (pss_cons (ps_for (passes_of rfl) rfl (pi_enumU rfl T.b_enumerate (pa_cons (pe_ix ix_tup (pv 2) pe_int (fun _ _ => rfl)) pa_nil)) (pg_tup rfl (pgs_cons (pg_name (i := 6) sc_l_near.nd rfl (by first | exact .inl rfl | exact .inr rfl)) (pgs_cons (pg_name (i := 7) sc_l_near.nd rfl (by first | exact .inl rfl | exact .inr rfl)) pgs_nil)))
 (pss_one (ps_if (pt_chain op_le op_lt pe_int (pe_op op_add (pv 5) (pv 6)) (pv 3))
 (pss_one (ps_asg (pe_g (c_l_part T) hr (by decide) rfl (pa_cons (pv 0) (pa_cons (pv 7) pa_nil))) (pg_sub (pv 4) (pe_op op_add (pv 5) (pv 6)) set_list)))
 pss_nil)))
 (pss_one (ps_ret (pv 4)))))), ?_⟩
  try dsimp only [cxOf]
  obtain ⟨pn, c, p, m, k, s0, d, rfl, pe, hm, k1, k4, pl, dk, s1, s10, q⟩ := h
  obtain ⟨tc, hp, htc⟩ := id pl
  have n4 := dk.n4
  walk_at "go"
  refine g_r1 (by omega) (by omega) ?_
  rw [Int.toNat_natCast]
  refine g_lcP walk_r0 (show s0 ≤ 4001 by omega) (k := 4) pe (fun i v => ∃ n : Nat, v = .int (n : Int) ∧ Num k n) (fun _ _ => trivial) (fun i x H2 H3 hi e2 p2 y Yes No hy => ?_) fun D acc H2 hD e2 hl al hc p2 => ?_
  · obtain ⟨rfl, rfl⟩ := y
    walk_at "go"
    exact ⟨pn, c, _, k, rfl, p2, by omega, k1, k4, fun n H4 hn e4 p4 => hy _ H4 ⟨n, rfl, hn⟩ e4 (p4.le (by omega))⟩
  · obtain ⟨ns, rfl, hn⟩ := nats_of hc
    rw [List.length_map] at al
    have hns : Nums k ns := fun n h => by
      obtain ⟨i, hi⟩ := List.mem_iff_getElem?.mp h
      exact hn i n hi
    have hp2 := e2 _ _ (pe.tup hp) hp
    have htc2 := e2 _ _ (pe.tup htc) htc
    walk_at "go"
    refine g_ixU (sq_t hp2) (atI_nat (j := 0) rfl) ?_
    walk_at "go"
    refine g_lenU (sq_t htc2) ?_
    rw [List.length_map]
    walk_at "go"
    refine ⟨pn, c, _, s0, rfl, p2, by omega, by omega, by omega, fun a H3 ha e3 p3 => ?_⟩
    walk_at "go"
    refine g_new (show 3 ≤ 1000 by decide) fun l H4 h4 e4 hl4 _ => ?_
    walk_at "go"
    refine ⟨pn, c, l, _, _, rfl, p3.ex e4, hl4, (p3.fr h4).1, by simp, by simp, by omega, fun j x H5 hj e5 p5 => ?_⟩
    have hx : ∃ b : Int, x = .int b := by
      match j, hj with
      | 0, hj => cases hj; exact ⟨_, rfl⟩
      | 1, hj => cases hj; exact ⟨_, rfl⟩
      | 2, hj => cases hj; exact ⟨_, rfl⟩
      | j + 3, hj => cases hj
    obtain ⟨b, rfl⟩ := hx
    have ep5 := (e2.tr e3).tr (e4.ep.tr e5)
    have htc5 := ep5 _ _ (pe.tup htc) htc
    have hp5 := ep5 _ _ (pe.tup hp) hp
    have hl2 := e3 _ _ (p2.nats hl) hl
    have hl5 := e5 _ _ ((p3.ex e4).nats (e4 _ _ hl2)) (e4 _ _ hl2)
    walk_at "go"
    refine g_ixU (sq_t hp5) (atI_nat (j := 0) rfl) ?_
    walk_at "go"
    refine g_iEU (sq_t htc5) ?_
    have hDn : D ≠ pn := (pe.fr hD).1
    have kb : 2 ^ k ≤ 2 ^ 4 := Nat.pow_le_pow_right (by decide) k4
    refine g_forW walk_enumU (fun i σ' H' => (∃ u v, σ' = [some (.ref pn), some (.int (k : Int)), some (.ref p), some (.int (s0 : Int)), some (.ref D), some (.int b), u, v]) ∧ Ep pn H H' ∧ PenAt H' pn c (m + 42 + i) ∧ ∃ ns, RowAt H' D k ns ∧ ns.length = s0) ⟨⟨_, _, rfl⟩, ep5, p5.le (by omega), ns, ⟨hl5, hns⟩, al⟩ (fun i σ' H' _ z => sq_t (z.2.1 _ _ (pe.tup htc) htc)) (fun i x σ' H6 H7 hi z y => ?_) (fun σ' H6 z => ?_)
    · obtain ⟨⟨u, v, rfl⟩, e6, p6, ns6, ⟨r6, n6⟩, l6⟩ := z
      obtain ⟨T2, x2, y2, rfl, hT, rfl, hx2, hy2⟩ := y
      cases hx2
      obtain ⟨rfl, hi2⟩ := nat_item hy2
      have hdi : d.ns[i]? = some (d.ns.getD i 0) := by simp [List.getD, hi2]
      have nb := dk.ns _ (List.mem_of_getElem? hdi)
      have eT : Ex H6 (upd H6 T2 (.tup [.int (i : Int), .int ((d.ns.getD i 0 : Nat) : Int)])) := Ex.nw hT
      have p7 := p6.ex eT
      have r7 := eT _ _ r6
      walk_at "go"
      refine g_gtup (sq_t upd_same) rfl ?_
      walk_at "go"
      refine if_split (fun h1 => ?_) (fun h1 => ?_)
      · walk_at "go"
        refine if_split (fun h2 => ?_) (fun h2 => ?_)
        · walk_at "go"
          have n15 : d.ns.getD i 0 ≤ 15 := by have := nb.2; omega
          refine ⟨pn, c, _, d.ns.getD i 0, rfl, p7, by omega, nb.1, n15, fun k2 H8 k2a k2b e8 p8 => ?_⟩
          have r8 := e8 _ _ hDn r7
          walk_at "go"
          refine g_setL (j := (b + (i : Int)).toNat) r8 ?_ ?_
          · unfold ixN
            rw [if_pos h1, if_pos (by rw [List.length_map, l6]; exact h2)]
          · have k2n : Num k k2 := ⟨k2a, within_lt k2b nb.2⟩
            have fr8 : D ≠ pn ∧ D ≠ c := pe.fr hD
            walk_at "go"
            refine ⟨⟨_, _, rfl⟩, ((e6.tr eT.ep).tr e8).up hD, (p8.up fr8).le (by omega), ns6.set (b + (i : Int)).toNat k2, ⟨?_, fun n hn => ?_⟩, by rw [List.length_set, l6]⟩
            · rw [upd_same, List.map_set]
            · rcases List.mem_or_eq_of_mem_set hn with z | z
              · exact n6 n z
              · rw [z]; exact k2n
        · walk_at "go"
          exact ⟨⟨_, _, rfl⟩, e6.tr eT.ep, p7.le (by omega), ns6, ⟨r7, n6⟩, l6⟩
      · walk_at "go"
        exact ⟨⟨_, _, rfl⟩, e6.tr eT.ep, p7.le (by omega), ns6, ⟨r7, n6⟩, l6⟩
    · obtain ⟨⟨u, v, rfl⟩, e6, p6, ns6, r6, l6⟩ := z
      walk_at "go"
      exact q D ns6 H6 hD l6 e6 r6 (p6.le (by rw [List.length_map]; omega))
theorem c_l_near (T : HD K mg) : Gbl P w K mg base "_law_near" 4 spNear := by
  obtain ⟨fd, F⟩ := T.fnd 43 rfl
  exact ⟨_, fd, ["_law_pen_here", "_law_many", "_law_plan_here", "_law_size"], ok_l_near T F, T.g_l_near, F.kp, F.bindsN fun _ _ _ _ _ _ us hl => match us, hl with | [_, _, _, _], _ => rfl⟩
structure Wide (d e : RD) : Prop where
  len : e.ns.length = d.ns.length
  ns : ∀ i, i < d.ns.length → d.ns.getD i 0 &&& e.ns.getD i 0 = d.ns.getD i 0
  hk : e.k = d.k
  hj : e.j = d.j
  hl : e.l = true → d.l = true
  hr : e.r = true → d.r = true
def spWider : Sp := fun vs H Q _ => ∃ (pn c p : Addr) (m k : Nat) (d : RD), vs = [.ref pn, .int (k : Int), .ref p] ∧ PenAt H pn c m ∧ m ≤ 700000 ∧ 1 ≤ k ∧ k ≤ 4 ∧ PlanAt H p d ∧ DOk k d ∧
  ∀ r e H', DOk k e → Wide d e → Ep pn H H' → PlanAt H' r e → PenAt H' pn c (m + 30) → Q (.ref r) H'
abbrev N_l_wider : List Str := ["_law_pen_here", "_law_many", "_law_plan_here", "_law_cells", "_law_number"]
theorem sc_l_wider : FnScope N_l_wider ["_law_pen_here", "_law_many", "_law_plan_here"] (defScope (topS 52)) := ⟨rfl, rfl, rfl, by decide +kernel, rfl, by decide +kernel, by decide +kernel⟩
theorem ok_l_wider {f : Addr} {fd : FuncData} (T : HD K mg) (F : FunD K "_law_wider" "_law_wider" (defArgs (topS 52)) (defBody (topS 52)) (defScope (topS 52)) [] [] f fd) : FnOk P w K mg base (L2.CX P w) 4 f fd ["_law_pen_here", "_law_many", "_law_plan_here"] spWider := by
  refine F.ok sc_l_wider (fun vs H Q E h => by obtain ⟨_, _, _, _, _, _, rfl, _⟩ := h; rfl) (fun cdv A outer s H vs Q E hr h => ?_)
  refine ⟨_, (pss_cons (ps_set (i := 3) sc_l_wider.nd rfl (by first | exact .inl rfl | exact .inr rfl) (pe_callTy call_tupL rfl T.b_tuple (by decide +kernel) (pa_cons (pe_lc (own := [("_law_number", 4)]) (g := gName 4) rfl sc_l_wider.nd (pi_tup (pe_ix ix_tup (pv 2) pe_int (fun _ _ => rfl))) (blkOk_by (own := [("_law_number", 4)]) (N := N_l_wider) (sc := defScope (topS 52)) (by decide +kernel)) (fun _ _ _ _ _ => (pg_name (i := 4) sc_l_wider.nd rfl (by first | exact .inl rfl | exact .inr rfl))) (fun _ _ _ _ _ => pts_nil) (fun _ _ _ _ _ => (pe_op op_or (pv 4) (pe_op op_mul (pe_g (c_l_cell T) hr (by decide) rfl (pa_cons (pv 0) (pa_cons (pv 1) pa_nil))) (pe_g (c_l_draw T) hr (by decide) rfl (pa_cons (pv 0) (pa_cons pe_int pa_nil))))))) pa_nil)))
 (pss_one (ps_ret (pe_tup (pa_cons (pv 3) (pa_cons (pe_ix ix_tup (pv 2) pe_int (fun _ _ => rfl)) (pa_cons (pe_ix ix_tup (pv 2) pe_int (fun _ _ => rfl)) (pa_cons (pe_and (pe_ix ix_tup (pv 2) pe_int (fun _ _ => rfl)) (pe_one (pe_cmpR op_eq (pe_g (c_l_draw T) hr (by decide) rfl (pa_cons (pv 0) (pa_cons pe_int pa_nil))) pe_int (nomark _)))) (pa_cons (pe_and (pe_ix ix_tup (pv 2) pe_int (fun _ _ => rfl)) (pe_one (pe_cmpR op_eq (pe_g (c_l_draw T) hr (by decide) rfl (pa_cons (pv 0) (pa_cons pe_int pa_nil))) pe_int (nomark _)))) pa_nil))))))))), ?_⟩
  try dsimp only [cxOf]
  obtain ⟨pn, c, p, m, k, d, rfl, pe, hm, k1, k4, pl, dk, q⟩ := h
  obtain ⟨tc, hp, htc⟩ := id pl
  have n4 := dk.n4
  walk_at "go"
  refine g_ixU (sq_t hp) (atI_nat (j := 0) rfl) ?_
  walk_at "go"
  refine g_iU (sq_t htc) ?_
  refine g_lcP walk_tup (by rw [List.length_map]; omega) (k := 5) pe (fun i v => ∃ n : Nat, v = .int (n : Int) ∧ Num k n ∧ d.ns.getD i 0 &&& n = d.ns.getD i 0) (fun H' e => sq_t (e _ _ (pe.tup htc) htc)) (fun i x H2 H3 hi e2 p2 y Yes No hy => ?_) fun D acc H2 hD e2 hl al hc p2 => ?_
  · obtain ⟨rfl, hx⟩ := y
    obtain ⟨rfl, hi2⟩ := nat_item hx
    have hdi : d.ns[i]? = some (d.ns.getD i 0) := by simp [List.getD, hi2]
    have nb := dk.ns _ (List.mem_of_getElem? hdi)
    walk_at "go"
    refine ⟨pn, c, _, k, rfl, p2, by omega, k1, k4, fun n H4 hn e4 p4 => ?_⟩
    walk_at "go"
    refine ⟨pn, c, _, 2, rfl, p4, by omega, by omega, by omega, fun b H5 hb e5 p5 => ?_⟩
    walk_at "go"
    have hb2 : n * b < 2 ^ k := by
      rcases (show b = 0 ∨ b = 1 by omega) with z | z
      · rw [z, Nat.mul_zero]; exact Nat.two_pow_pos k
      · rw [z, Nat.mul_one]; exact hn.2
    rw [show (n : Int) * (b : Int) = ((n * b : Nat) : Int) by push_cast; rfl, or_n]
    exact hy _ H5 ⟨_, rfl, nb.or hb2, within_left _ _⟩ (e4.tr e5) (p5.le (by omega))
  · rw [List.length_map] at al p2
    obtain ⟨ns, rfl, hn⟩ := nats_of hc
    rw [List.length_map] at al
    have hns : Nums k ns := fun n h => by
      obtain ⟨i, hi⟩ := List.mem_iff_getElem?.mp h
      exact (hn i n hi).1
    have hw : ∀ i, i < d.ns.length → d.ns.getD i 0 &&& ns.getD i 0 = d.ns.getD i 0 := fun i hi => (hn i (ns.getD i 0) (by simp [List.getD, show i < ns.length by omega])).2
    walk_at "go"
    refine g_tupL hl fun t2 H3 n3 e3 ht2 _ => ?_
    have p3 := p2.ex e3
    have ep3 := e2.tr e3.ep
    have hp3 := ep3 _ _ (pe.tup hp) hp
    walk_at "go"
    refine g_ixU (sq_t hp3) (atI_nat (j := 1) rfl) ?_
    walk_at "go"
    refine g_ixU (sq_t hp3) (atI_nat (j := 2) rfl) ?_
    walk_at "go"
    refine g_ixU (sq_t hp3) (atI_nat (j := 3) rfl) ?_
    have fin : ∀ (l r : Bool) H9, (l = true → d.l = true) → (r = true → d.r = true) → Ep pn H H9 → H9 t2 = some (.tup (ns.map fun (n : Nat) => V.int (n : Int))) → PenAt H9 pn c (m + 25) → kNew (.tup [.ref t2, .int (d.k : Int), .int (d.j : Int), .bl l, .bl r]) [V.ref t2, V.int (d.k : Int), V.int (d.j : Int), V.bl l, V.bl r].length H9 Q := fun l r H9 hl hr e9 h9 p9 => by
      refine g_new (show 5 ≤ 1000 by decide) fun t H10 n10 e10 ht10 _ => ?_
      refine q t ⟨ns, d.k, d.j, l, r⟩ H10 ⟨by show 1 ≤ ns.length; have := dk.n1; omega, by show ns.length ≤ 4; omega, hns, by show d.k < ns.length; have := dk.hk; omega, dk.hj, bit_up dk.bit (hw d.k dk.hk)⟩ ⟨al, hw, rfl, rfl, hl, hr⟩ (e9.tr e10.ep) ⟨t2, ht10, e10 _ _ h9⟩ ((p9.ex e10).le (by omega))
    walk_at "go"
    refine if_b (fun h3 => ?_) (fun h3 => ?_)
    · walk_at "go"
      refine ⟨pn, c, _, 2, rfl, p3, by omega, by omega, by omega, fun b H4 hb e4 p4 => ?_⟩
      walk_at "go"
      have hp4 := e4 _ _ (p3.tup hp3) hp3
      have ht4 := e4 _ _ (p3.tup ht2) ht2
      refine g_ixU (sq_t hp4) (atI_nat (j := 4) rfl) ?_
      walk_at "go"
      refine if_b (fun h4 => ?_) (fun h4 => ?_)
      · walk_at "go"
        refine ⟨pn, c, _, 2, rfl, p4, by omega, by omega, by omega, fun b2 H5 hb2 e5 p5 => ?_⟩
        walk_at "go"
        exact fin _ _ _ (fun _ => h3) (fun _ => h4) ((ep3.tr e4).tr e5) (e5 _ _ (p4.tup ht4) ht4) (p5.le (by omega))
      · walk_at "go"
        exact fin _ _ _ (fun _ => h3) (fun z => nomatch z) (ep3.tr e4) ht4 (p4.le (by omega))
    · walk_at "go"
      refine g_ixU (sq_t hp3) (atI_nat (j := 4) rfl) ?_
      walk_at "go"
      refine if_b (fun h4 => ?_) (fun h4 => ?_)
      · walk_at "go"
        refine ⟨pn, c, _, 2, rfl, p3, by omega, by omega, by omega, fun b2 H5 hb2 e5 p5 => ?_⟩
        walk_at "go"
        exact fin _ _ _ (fun z => nomatch z) (fun _ => h4) (ep3.tr e5) (e5 _ _ (p3.tup ht2) ht2) (p5.le (by omega))
      · walk_at "go"
        exact fin _ _ _ (fun z => nomatch z) (fun z => nomatch z) ep3 ht2 (p3.le (by omega))
theorem c_l_wider (T : HD K mg) : Gbl P w K mg base "_law_wider" 4 spWider := by
  obtain ⟨fd, F⟩ := T.fnd 44 rfl
  exact ⟨_, fd, ["_law_pen_here", "_law_many", "_law_plan_here"], ok_l_wider T F, T.g_l_wider, F.kp, F.bindsN fun _ _ _ _ _ _ us hl => match us, hl with | [_, _, _], _ => rfl⟩
/-! ### the plain law -/
theorem rng {n i : Nat} : i ∈ List.range n ↔ i < n := List.mem_range
theorem fits_mono {d : RD} {ns ms : List Nat} {p : Int} (e : ns.length = ms.length) (w : ∀ i, i < ns.length → ns.getD i 0 &&& ms.getD i 0 = ns.getD i 0) (h : P_fits d ms p) : P_fits d ns p := by
  obtain ⟨s, t⟩ := h
  refine ⟨by rw [e]; exact s, fun i hi => ?_⟩
  have z := s.2.1
  have z0 := s.1
  exact within_tr (w _ (by have := rng.mp hi; omega)) (t i hi)
theorem ors_at {ns ms : List Nat} {i : Nat} (h : i < ns.length) : (ors ns ms).getD i 0 = ns.getD i 0 ||| ms.getD i 0 := getD_of (ors_get h)
theorem or_left (a b : Nat) : a &&& (a ||| b) = a := within_left a b
theorem or_right (a b : Nat) : b &&& (a ||| b) = b := by
  rw [Nat.or_comm]
  exact within_left b a
theorem fits_or {d : RD} {ns ms : List Nat} {p : Int} (e : ns.length = ms.length) (h : P_fits d (ors ns ms) p) : P_fits d ns p ∧ P_fits d ms p :=
  ⟨fits_mono (ors_len ns ms).symm (fun i hi => by rw [ors_at hi]; exact or_left _ _) h, fits_mono (by rw [ors_len, e]) (fun i hi => by rw [ors_at (by omega)]; exact or_right _ _) h⟩
theorem hits_fits {d : RD} {ns : List Nat} {p : Int} : P_hits d ns p ↔ P_fits d ns p ∧ ns.getD (p.toNat + d.k) 0 &&& 2 ^ d.j ≠ 0 := ⟨fun ⟨a, b, c⟩ => ⟨⟨a, c⟩, b⟩, fun ⟨⟨a, c⟩, b⟩ => ⟨a, b, c⟩⟩
theorem hits_or {d : RD} {ns ms : List Nat} {p : Int} (e : ns.length = ms.length) (hk : d.k < d.ns.length) (h : P_hits d (ors ns ms) p) : P_hits d ns p ∨ P_hits d ms p := by
  obtain ⟨f, b⟩ := hits_fits.mp h
  obtain ⟨f1, f2⟩ := fits_or e f
  have s := f1.1.2.1
  have s0 := f1.1.1
  rw [ors_at (by omega), Nat.and_or_distrib_right] at b
  by_cases z : ns.getD (p.toNat + d.k) 0 &&& 2 ^ d.j = 0
  · refine .inr (hits_fits.mpr ⟨f2, fun y => b ?_⟩)
    rw [z, y]
    rfl
  · exact .inl (hits_fits.mpr ⟨f1, z⟩)
theorem fits_wide {d e : RD} {ns : List Nat} {p : Int} (w : Wide d e) (h : P_fits d ns p) : P_fits e ns p := by
  obtain ⟨⟨a, b, c, f⟩, t⟩ := h
  refine ⟨⟨a, by rw [w.len]; exact b, fun z => c ⟨w.hl z.1, z.2⟩, ?_⟩, fun i hi => ?_⟩
  · rcases f with f | f
    · exact .inl (by rw [w.len]; exact f)
    · refine .inr ?_
      cases er : e.r with
      | false => rfl
      | true =>
        have := w.hr er
        rw [f] at this
        cases this
  · rw [w.len] at hi
    exact within_tr (t i hi) (w.ns i (rng.mp hi))
theorem hits_wide {d e : RD} {ns : List Nat} {p : Int} (w : Wide d e) (h : P_hits d ns p) : P_hits e ns p := by
  obtain ⟨f, b⟩ := hits_fits.mp h
  exact hits_fits.mpr ⟨fits_wide w f, by rw [w.hk, w.hj]; exact b⟩
def spNarrow (K : PySem.W.Frag) : Sp := fun vs H Q _ => ∃ (pn c va ra rp : Addr) (m : Nat) (ls : List Nat) (d : RD) (ns : List Nat), vs = [.ref pn, .ref va, .ref ra, .ref rp] ∧ PenAt H pn c m ∧ m ≤ 700000 ∧ ValsAt K H va ls ∧ OkL ls ∧ RuleAt K H ra ls d ∧ DOk ls.length d ∧ RowAt H rp ls.length ns ∧ 1 ≤ ns.length ∧ ns.length ≤ 10 ∧
  ∀ H', Ep pn H H' → PenAt H' pn c (m + 50) → Q (.bl true) H'
abbrev N_l_narrow_right : List Str := ["_law_pen_here", "_law_ground", "_law_rule_here", "_law_row_here", "_law_strip", "_law_again", "_law_less", "_law_begin", "_law_stands", "_law_number"]
theorem sc_l_narrow_right : FnScope N_l_narrow_right ["_law_pen_here", "_law_ground", "_law_rule_here", "_law_row_here"] (defScope (topS 53)) := ⟨rfl, rfl, rfl, by decide +kernel, rfl, by decide +kernel, by decide +kernel⟩
theorem ok_l_narrow_right {f : Addr} {fd : FuncData} (T : HD K mg) (F : FunD K "_law_narrow_right" "_law_narrow_right" (defArgs (topS 53)) (defBody (topS 53)) (defScope (topS 53)) [] [] f fd) : FnOk P w K mg base (L2.CX P w) 9 f fd ["_law_pen_here", "_law_ground", "_law_rule_here", "_law_row_here"] (spNarrow K) := by
  refine F.ok sc_l_narrow_right (fun vs H Q E h => by obtain ⟨_, _, _, _, _, _, _, _, _, rfl, _⟩ := h; rfl) (fun cdv A outer s H vs Q E hr h => ?_)
  refine ⟨_, (pss_cons (ps_set (i := 4) sc_l_narrow_right.nd rfl (by first | exact .inl rfl | exact .inr rfl) (pe_g (c_l_line T) hr (by decide) rfl (pa_cons (pv 1) (pa_cons (pv 3) pa_nil))))
 (pss_cons (ps_for (passes_of rfl) rfl (pi_range1 rfl T.b_range (pa_cons pe_int pa_nil)) (pg_name (i := 5) sc_l_narrow_right.nd rfl (by first | exact .inl rfl | exact .inr rfl))
 (pss_cons (ps_set (i := 6) sc_l_narrow_right.nd rfl (by first | exact .inl rfl | exact .inr rfl) (pe_g (c_l_line T) hr (by decide) rfl (pa_cons (pv 1) (pa_cons (pe_lc (own := [("_law_number", 9)]) (g := gName 9) rfl sc_l_narrow_right.nd (pi_list (pv 3)) (blkOk_by (own := [("_law_number", 9)]) (N := N_l_narrow_right) (sc := defScope (topS 53)) (by decide +kernel)) (fun _ _ _ _ _ => (pg_name (i := 9) sc_l_narrow_right.nd rfl (by first | exact .inl rfl | exact .inr rfl))) (fun _ _ _ _ _ => pts_nil) (fun _ _ _ _ _ => (pe_g (c_l_part T) hr (by decide) rfl (pa_cons (pv 0) (pa_cons (pv 9) pa_nil))))) pa_nil))))
 (pss_one (ps_for (passes_of rfl) rfl (pi_range1 rfl T.b_range (pa_cons (pe_callB call_lenG rfl T.b_len PySem.boot_len (pa_cons (pv 3) pa_nil)) pa_nil)) (pg_name (i := 7) sc_l_narrow_right.nd rfl (by first | exact .inl rfl | exact .inr rfl))
 (C8.pss_cut (ps_if (PW.pt (pw_or (pt_not (pt_val (pe_m (c_Line_within T) hr (by decide) (pv 6) (pa_cons (pv 4) pa_nil)))) (pw_or1 (PW.pt (pw_and (pt_val (pe_m (c_Rule_fits T) hr (by decide) (pv 2) (pa_cons (pv 4) (pa_cons (pv 7) pa_nil)))) (pw_and1 (pt_not (pt_val (pe_m (c_Rule_fits T) hr (by decide) (pv 2) (pa_cons (pv 6) (pa_cons (pv 7) pa_nil)))))))))))
 (pss_one (ps_ret pe_bl))
 pss_nil)
 (pss_cons (ps_set (i := 8) sc_l_narrow_right.nd rfl (by first | exact .inl rfl | exact .inr rfl) (pe_and (pe_m (c_Rule_fits T) hr (by decide) (pv 2) (pa_cons (pv 6) (pa_cons (pv 7) pa_nil))) (pe_one (pe_cmpR (op_inO (c_Cell_contains T) hr (by decide)) (pe_fld (pv 2) rfl) (pe_ixO (c_Line_getitem T) hr (by decide) (pv 6) (pe_op op_add (pv 7) (pe_fld (pv 2) rfl)) (fun _ _ => rfl)) rfl))))
 (pss_one (ps_if (pt_cmpR op_ne (pe_m (c_Rule_hits T) hr (by decide) (pv 2) (pa_cons (pv 6) (pa_cons (pv 7) pa_nil))) (pv 8) (nomark _))
 (pss_one (ps_ret pe_bl))
 pss_nil))))))))
 (pss_one (ps_ret pe_bl)))), ?_⟩
  try dsimp only [cxOf]
  obtain ⟨pn, c, va, ra, rp, m, ls, d, ns, rfl, pe, hm, v, ok, hr0, dk, row, n1, n10, q⟩ := h
  have l4 := ok.l4
  have kb : 2 ^ ls.length ≤ 2 ^ 4 := Nat.pow_le_pow_right (by decide) l4
  obtain ⟨dx, va2, tp, tn, as, cc, hra, ⟨dv2, hv2⟩, htp, cs, htn, hj⟩ := id hr0
  walk_at "go"
  refine ⟨va, rp, ls, ns, rfl, v, ok, row, n1, by omega, fun st H1 e1 lst => ?_⟩
  walk_at "go"
  refine g_r1 (by decide) (by decide) ?_
  rw [show (3 : Int).toNat = 3 from rfl]
  refine g_forW walk_r0 (fun i σ' H' => (∃ s5 s6 s7 s8 s9, σ' = [some (.ref pn), some (.ref va), some (.ref ra), some (.ref rp), some (.ref st), s5, s6, s7, s8, s9]) ∧ Ep pn H1 H' ∧ PenAt H' pn c (m + 10 * i)) ⟨⟨_, _, _, _, _, rfl⟩, Ep.rfl', pe.ex e1⟩ (fun _ _ _ _ _ => trivial) (fun i x σ' H2 H3 hi z y => ?_) (fun σ' H2 z => ?_)
  · obtain ⟨⟨s5, s6, s7, s8, s9, rfl⟩, e2, p2⟩ := z
    obtain ⟨rfl, rfl⟩ := y
    have pe1 := pe.ex e1
    have row2 : RowAt H3 rp ls.length ns := (row.ex e1).ep pe1 e2
    walk_at "go"
    refine g_iL (sq_l row2.1) ?_
    refine g_lcP walk_list (by rw [List.length_map]; omega) (k := 1) p2 (fun i v => ∃ n : Nat, v = .int (n : Int) ∧ Num ls.length n ∧ n &&& ns.getD i 0 = n) (fun H' e => sq_l (e _ _ (p2.nats row2.1) row2.1)) (fun j x H4 H5 hj4 e4 p4 y Yes No hy => ?_) fun D acc H4 hD e4 hl al hc p4 => ?_
    · obtain ⟨rfl, hx⟩ := y
      obtain ⟨rfl, hi2⟩ := nat_item hx
      have nb := row.2 _ (List.mem_of_getElem? (show ns[j]? = some (ns.getD j 0) by simp [List.getD, hi2]))
      walk_at "go"
      refine ⟨pn, c, _, ns.getD j 0, rfl, p4, by omega, nb.1, by have := nb.2; omega, fun k2 H6 k2a k2b e6 p6 => ?_⟩
      exact hy _ H6 ⟨k2, rfl, ⟨k2a, within_lt k2b nb.2⟩, k2b⟩ e6 (p6.le (by omega))
    · rw [List.length_map] at al p4
      obtain ⟨ms, rfl, hms⟩ := nats_of hc
      rw [List.length_map] at al
      have nms : Nums ls.length ms := fun n h => by
        obtain ⟨i, hi⟩ := List.mem_iff_getElem?.mp h
        exact (hms i n hi).1
      have win : ∀ i, i < ms.length → ms.getD i 0 &&& ns.getD i 0 = ms.getD i 0 := fun i hi => (hms i (ms.getD i 0) (by simp [List.getD, hi])).2
      have p1 := pe1
      have e14 : Ep pn H1 H4 := e2.tr e4
      have v4 : ValsAt K H4 va ls := (v.ex e1).kp (e14.kept p1)
      walk_at "go"
      refine ⟨va, D, ls, ms, rfl, v4, ok, ⟨hl, nms⟩, by omega, by omega, fun le H5 e5 lle => ?_⟩
      have lst5 : LineAt K H5 st ls ns := (lst.ep p1 e14).ex e5
      have r5 : RuleAt K H5 ra ls d := ((hr0.kp e1.kept).kp (e14.kept p1)).kp e5.kept
      have row5 : RowAt H5 rp ls.length ns := ((row.ex e1).ep p1 e14).ex e5
      have hra5 : H5 ra = some (.ins (CR K) dx (rF va2 tp (d.k : Int) (sgn cc) d.l d.r tn ((2 ^ d.j : Nat) : Int))) := e5 _ _ (e14 _ _ (p1.ins (e1 _ _ hra)) (e1 _ _ hra))
      obtain ⟨dl, vl, rl, al2, hle, _⟩ := id lle
      walk_at "go"
      refine g_len (sq_l row5.1) ?_
      rw [List.length_map]
      walk_at "go"
      refine g_r1 (by omega) (by omega) ?_
      rw [Int.toNat_natCast]
      refine g_forW walk_r0 (fun j σ' H' => (∃ s7 s8 s9, σ' = [some (.ref pn), some (.ref va), some (.ref ra), some (.ref rp), some (.ref st), some (.int (i : Int)), some (.ref le), s7, s8, s9]) ∧ Ex H5 H') ⟨⟨_, _, _, rfl⟩, Ex.rfl'⟩ (fun _ _ _ _ _ => trivial) (fun j x σ' H6 H7 hj6 z y => ?_) (fun σ' H6 z => ?_)
      · obtain ⟨⟨s7, s8, s9, rfl⟩, e6⟩ := z
        obtain ⟨rfl, rfl⟩ := y
        walk_at "go"
        refine g_cut (fun σ' H' => σ' = [some (.ref pn), some (.ref va), some (.ref ra), some (.ref rp), some (.ref st), some (.int (i : Int)), some (.ref le), some (.int (j : Int)), s8, s9] ∧ Ex H5 H') ?_ ?_
        · walk_at "go"
          refine g_mt (e6 _ _ hle) rfl ?_
          walk_at "go"
          refine ⟨le, st, ls, ms, ns, rfl, lle.ex e6, lst5.ex e6, al, by omega, fun H8 e8 => ?_⟩
          rw [decide_eq_true (show AllIn ms ns from fun i hi => win i (rng.mp hi))]
          have e58 := e6.tr e8
          walk_at "go"
          refine g_mt (e58 _ _ hra5) rfl ?_
          walk_at "go"
          refine ⟨ra, st, ls, d, ns, (j : Int), rfl, r5.kp e58.kept, dk.n4, lst5.ex e58, by omega, fun H9 e9 => ?_⟩
          have e59 := e58.tr e9
          walk_at "go"
          refine if_split (fun f1 => ?_) (fun f1 => ?_)
          · walk_at "go"
            refine g_mt (e59 _ _ hra5) rfl ?_
            walk_at "go"
            refine ⟨ra, le, ls, d, ms, (j : Int), rfl, r5.kp e59.kept, dk.n4, lle.ex e59, by omega, fun H10 e10 => ?_⟩
            rw [decide_eq_true (fits_mono al win f1)]
            walk_at "go"
            exact ⟨rfl, e59.tr e10⟩
          · walk_at "go"
            exact ⟨rfl, e59⟩
        · rintro σ' H8 ⟨rfl, e8⟩
          walk_at "go"
          refine g_mt (e8 _ _ hra5) rfl ?_
          walk_at "go"
          refine ⟨ra, le, ls, d, ms, (j : Int), rfl, r5.kp e8.kept, dk.n4, lle.ex e8, by omega, fun H9 e9 => ?_⟩
          have e59 := e8.tr e9
          have hra9 := e59 _ _ hra5
          walk_at "go"
          refine if_split (fun f1 => ?_) (fun f1 => ?_)
          · have hb1 := f1.1.2.1
            walk_at "go"
            rw [show (j : Int) + (d.k : Int) = ((j + d.k : Nat) : Int) by omega]
            refine g_ixO (e59 _ _ hle) ⟨le, j + d.k, ls, ms, rfl, lle.ex e59, by have := dk.hk; omega, fun b cb => ?_⟩
            obtain ⟨vb, cb2⟩ := id cb
            obtain ⟨⟨db, hb⟩, _⟩ := id cb2
            refine g_inO hb ⟨b, vb, ls, _, cc, rfl, cb2, ?_⟩
            walk_at "go"
            refine g_mt hra9 rfl ?_
            walk_at "go"
            refine ⟨ra, le, ls, d, ms, (j : Int), rfl, r5.kp e59.kept, dk.n4, dk.hk, lle.ex e59, by omega, fun H10 e10 => ?_⟩
            have hs : decide (P_hits d ms (j : Int)) = (decide (cc ∈ sub ls (ms.getD (j + d.k) 0)) != false) := by
              rw [show (decide (cc ∈ sub ls (ms.getD (j + d.k) 0)) != false) = decide (cc ∈ sub ls (ms.getD (j + d.k) 0)) by cases decide (cc ∈ sub ls (ms.getD (j + d.k) 0)) <;> rfl]
              refine decide_eq_decide.mpr (hits_fits.trans ⟨fun y => (sub_bit hj ok.nd).mpr ((and_pow _ _).mp y.2), fun y => ⟨f1, (and_pow _ _).mpr ((sub_bit hj ok.nd).mp y)⟩⟩)
            walk_at "go"
            rw [hs, decide_eq_true rfl]
            walk_at "go"
            exact ⟨⟨_, _, _, rfl⟩, e59.tr e10⟩
          · walk_at "go"
            refine g_mt hra9 rfl ?_
            walk_at "go"
            refine ⟨ra, le, ls, d, ms, (j : Int), rfl, r5.kp e59.kept, dk.n4, dk.hk, lle.ex e59, by omega, fun H10 e10 => ?_⟩
            rw [decide_eq_false (fun y : P_hits d ms (j : Int) => f1 (hits_fits.mp y).1)]
            walk_at "go"
            rw [decide_eq_true (rfl : V.bl false = V.bl false)]
            walk_at "go"
            exact ⟨⟨_, _, _, rfl⟩, e59.tr e10⟩
      · obtain ⟨⟨s7, s8, s9, rfl⟩, e6⟩ := z
        refine ⟨⟨_, _, _, _, _, rfl⟩, e14.tr (e5.tr e6).ep, ((p4.ex e5).ex e6).le (by omega)⟩
  · obtain ⟨⟨s5, s6, s7, s8, s9, rfl⟩, e2, p2⟩ := z
    walk_at "go"
    exact q H2 (e1.ep.tr e2) (p2.le (by omega))
theorem c_l_narrow_right (T : HD K mg) : Gbl P w K mg base "_law_narrow_right" 9 (spNarrow K) := by
  obtain ⟨fd, F⟩ := T.fnd 45 rfl
  exact ⟨_, fd, ["_law_pen_here", "_law_ground", "_law_rule_here", "_law_row_here"], ok_l_narrow_right T F, T.g_l_narrow_right, F.kp, F.bindsN fun _ _ _ _ _ _ us hl => match us, hl with | [_, _, _, _], _ => rfl⟩
theorem mkV {K : PySem.W.Frag} {H : Hp} {Q : VK} {ls : List Nat} (ok : OkL ls) (q : ∀ x H', Ex H H' → ValsAt K H' x ls → Q (.ref x) H') : kMk (CV K) (spVInit K) [.str (st ls)] H Q := by
  intro x dx hx hdx ne
  have e1 : Ex H (upd (upd H dx (.own x)) x (.ins (CV K) dx [])) := fun a o z => (upd_ne (ne_of_none z hx)).trans ((upd_ne (ne_of_none z hdx)).trans z)
  refine ⟨x, dx, ls, rfl, ok, upd_same, fun H2 ep e => ⟨rfl, ?_⟩⟩
  exact q x H2 (fun a o z => ep a o (ne_of_none z hx) (e1 a o z)) ⟨dx, e⟩
def spLaw (K : PySem.W.Frag) : Sp := fun vs H Q _ => ∃ (a : Addr) (ns : List Int), vs = [.ref a] ∧ SqL K H a (ns.map V.int) ∧ ∀ H', Q (.bl true) H'
abbrev N_law : List Str := ["_law_script", "_law_pen_here", "_law_turn", "_law_ground", "_law_plan_here", "_law_size", "_law_rows", "_law_both", "_law_begin", "_law_rule_here", "_law_wider_here", "_law_one", "_law_other", "_law_each", "_law_k"]
theorem sc_law : FnScope N_law ["_law_script"] (defScope (topS 54)) := ⟨rfl, rfl, rfl, by decide +kernel, rfl, by decide +kernel, by decide +kernel⟩
theorem ok_law {f : Addr} {fd : FuncData} (T : HD K mg) (F : FunD K "law" "law" (defArgs (topS 54)) (defBody (topS 54)) (defScope (topS 54)) [] [] f fd) : FnOk P w K mg base (L2.CX P w) 10 f fd ["_law_script"] (spLaw K) := by
  refine F.ok sc_law (fun vs H Q E h => by obtain ⟨_, _, rfl, _⟩ := h; rfl) (fun cdv A outer s H vs Q E hr h => ?_)
  refine ⟨_, (pss_cons (ps_set (i := 1) sc_law.nd rfl (by first | exact .inl rfl | exact .inr rfl) (pe_g (c_l_pen T) hr (by decide) rfl (pa_cons (pv 0) pa_nil)))
 (pss_cons (ps_for (passes_of rfl) rfl (pi_range1 rfl T.b_range (pa_cons pe_int pa_nil)) (pg_name (i := 2) sc_law.nd rfl (by first | exact .inl rfl | exact .inr rfl))
 (pss_cons (ps_set (i := 3) sc_law.nd rfl (by first | exact .inl rfl | exact .inr rfl) (pe_n (c_Values T) hr (by decide) rfl (pa_cons (pe_g (c_l_letters T) hr (by decide) rfl (pa_cons (pv 1) pa_nil)) pa_nil)))
 (pss_cons (ps_set (i := 4) sc_law.nd rfl (by first | exact .inl rfl | exact .inr rfl) (pe_g (c_l_plan T) hr (by decide) rfl (pa_cons (pv 1) (pa_cons (pe_callB (call_lenO (c_Values_len T) hr (by decide)) rfl T.b_len PySem.boot_len (pa_cons (pv 3) pa_nil)) (pa_cons pe_int pa_nil)))))
 (pss_cons (ps_par (i := 9) (j := 10) rfl sc_law.nd rfl rfl (by decide) rfl rfl (pa_cons (pe_g (c_l_rule T) hr (by decide) rfl (pa_cons (pv 3) (pa_cons (pv 4) pa_nil))) (pa_cons (pe_g (c_l_rule T) hr (by decide) rfl (pa_cons (pv 3) (pa_cons (pe_g (c_l_wider T) hr (by decide) rfl (pa_cons (pv 1) (pa_cons (pe_callB (call_lenO (c_Values_len T) hr (by decide)) rfl T.b_len PySem.boot_len (pa_cons (pv 3) pa_nil)) (pa_cons (pv 4) pa_nil)))) pa_nil))) pa_nil)) rfl)
 (pss_cons (ps_set (i := 5) sc_law.nd rfl (by first | exact .inl rfl | exact .inr rfl) (pe_op op_add pe_int (pe_g (c_l_draw T) hr (by decide) rfl (pa_cons (pv 1) (pa_cons pe_int pa_nil)))))
 (pss_cons (ps_setLc (i := 6) (own := [("_law_k", 14)]) (g := gName 14) rfl sc_law.nd rfl rfl (sw_true rfl rfl rfl (by decide +kernel)) (pi_range1 rfl T.b_range (pa_cons pe_int pa_nil)) (blkOk_by (own := [("_law_k", 14)]) (N := N_law) (sc := defScope (topS 54)) (by decide +kernel)) (fun _ _ _ _ _ => (pg_name (i := 14) sc_law.nd rfl (by first | exact .inl rfl | exact .inr rfl))) (fun _ _ _ _ _ => pts_nil) (fun _ _ _ _ _ => (pe_g (c_l_near T) hr (by decide) rfl (pa_cons (pv 1) (pa_cons (pe_callB (call_lenO (c_Values_len T) hr (by decide)) rfl T.b_len PySem.boot_len (pa_cons (pv 3) pa_nil)) (pa_cons (pv 4) (pa_cons (pv 5) pa_nil)))))))
 (pss_cons (ps_par (i := 11) (j := 12) rfl sc_law.nd rfl rfl (by decide) rfl rfl (pa_cons (pe_g (c_l_line T) hr (by decide) rfl (pa_cons (pv 3) (pa_cons (pe_ix ix_list (pv 6) pe_int (fun _ _ => rfl)) pa_nil))) (pa_cons (pe_g (c_l_line T) hr (by decide) rfl (pa_cons (pv 3) (pa_cons (pe_ix ix_list (pv 6) pe_int (fun _ _ => rfl)) pa_nil))) pa_nil)) rfl)
 (pss_cons (ps_set (i := 7) sc_law.nd rfl (by first | exact .inl rfl | exact .inr rfl) (pe_op (op_own (c_Line_or T) T.sf_Line hr (by decide)) (pv 11) (pv 12)))
 (pss_cons (ps_for (passes_of rfl) rfl (pi_range1 rfl T.b_range (pa_cons (pv 5) pa_nil)) (pg_name (i := 8) sc_law.nd rfl (by first | exact .inl rfl | exact .inr rfl))
 (C8.pss_cut (ps_set (i := 13) sc_law.nd rfl (by first | exact .inl rfl | exact .inr rfl) (pe_and (pe_m (c_Rule_fits T) hr (by decide) (pv 9) (pa_cons (pv 11) (pa_cons (pv 8) pa_nil))) (pe_one (pe_m (c_Rule_fits T) hr (by decide) (pv 9) (pa_cons (pv 12) (pa_cons (pv 8) pa_nil))))))
 (C8.pss_cut (ps_if (PW.pt (pw_and (pt_val (pe_m (c_Rule_fits T) hr (by decide) (pv 9) (pa_cons (pv 7) (pa_cons (pv 8) pa_nil)))) (pw_and1 (pt_not (pt_val (pv 13))))))
 (pss_one (ps_ret pe_bl))
 pss_nil)
 (C8.pss_cut (ps_if (PW.pt (pw_and (pt_val (pe_m (c_Rule_hits T) hr (by decide) (pv 9) (pa_cons (pv 7) (pa_cons (pv 8) pa_nil)))) (pw_and (pt_not (pt_val (pe_m (c_Rule_hits T) hr (by decide) (pv 9) (pa_cons (pv 11) (pa_cons (pv 8) pa_nil))))) (pw_and1 (pt_not (pt_val (pe_m (c_Rule_hits T) hr (by decide) (pv 9) (pa_cons (pv 12) (pa_cons (pv 8) pa_nil)))))))))
 (pss_one (ps_ret pe_bl))
 pss_nil)
 (C8.pss_cut (ps_if (PW.pt (pw_and (pt_val (pe_m (c_Rule_fits T) hr (by decide) (pv 9) (pa_cons (pv 11) (pa_cons (pv 8) pa_nil)))) (pw_and1 (pt_not (pt_val (pe_m (c_Rule_fits T) hr (by decide) (pv 10) (pa_cons (pv 11) (pa_cons (pv 8) pa_nil))))))))
 (pss_one (ps_ret pe_bl))
 pss_nil)
 (pss_one (ps_if (PW.pt (pw_and (pt_val (pe_m (c_Rule_hits T) hr (by decide) (pv 9) (pa_cons (pv 11) (pa_cons (pv 8) pa_nil)))) (pw_and1 (pt_not (pt_val (pe_m (c_Rule_hits T) hr (by decide) (pv 10) (pa_cons (pv 11) (pa_cons (pv 8) pa_nil))))))))
 (pss_one (ps_ret pe_bl))
 pss_nil)))))))
 (pss_one (ps_if (pt_not (pt_val (pe_g (c_l_narrow_right T) hr (by decide) rfl (pa_cons (pv 1) (pa_cons (pv 3) (pa_cons (pv 9) (pa_cons (pe_ix ix_list (pv 6) pe_int (fun _ _ => rfl)) pa_nil)))))))
 (pss_one (ps_ret pe_bl))
 pss_nil)))))))))))
 (pss_one (ps_ret pe_bl)))), ?_⟩
  try dsimp only [cxOf]
  obtain ⟨a, xs, rfl, ha, q⟩ := h
  walk_at "go"
  refine ⟨a, xs, rfl, ha, fun pn c H1 e1 p1 => ?_⟩
  walk_at "go"
  refine g_r1 (by decide) (by decide) ?_
  rw [show (5 : Int).toNat = 5 from rfl]
  refine g_forW walk_r0 (fun i σ' H' => (∃ s2 s3 s4 s5 s6 s7 s8 s9 s10 s11 s12 s13 s14, σ' = [some (.ref a), some (.ref pn), s2, s3, s4, s5, s6, s7, s8, s9, s10, s11, s12, s13, s14]) ∧ PenAt H' pn c (1000 * i)) ⟨⟨_, _, _, _, _, _, _, _, _, _, _, _, _, rfl⟩, p1⟩ (fun _ _ _ _ _ => trivial) (fun i x σ' H2 H3 hi z y => ?_) (fun σ' H2 z => ?_)
  · obtain ⟨⟨s2, s3, s4, s5, s6, s7, s8, s9, s10, s11, s12, s13, s14, rfl⟩, p2⟩ := z
    obtain ⟨rfl, rfl⟩ := y
    walk_at "go"
    refine ⟨pn, c, _, rfl, p2, by omega, fun ls H4 ok e4 p4 => ?_⟩
    have l4 := ok.l4
    have l2 := ok.l2
    walk_at "go"
    refine mkV ok fun va H5 e5 v5 => ?_
    obtain ⟨dv, hv⟩ := id v5
    have p5 := p4.ex e5
    walk_at "go"
    refine g_lenO hv ⟨va, ls, rfl, v5, ok, ?_⟩
    refine ⟨_, rfl, by omega, by omega, ?_⟩
    walk_at "go"
    refine ⟨pn, c, _, ls.length, 4, rfl, p5, by omega, by omega, l4, by decide, by decide, fun pp d H6 dk n6 e6 pl6 p6 => ?_⟩
    have v6 := v5.kp (e6.kept p5)
    walk_at "go"
    refine ⟨va, pp, ls, d, rfl, v6, ok, pl6, dk, fun ra H7 e7 r7 => ?_⟩
    have p7 := p6.ex e7
    have v7 := v6.ex e7
    obtain ⟨dv7, hv7⟩ := id v7
    walk_at "go"
    refine g_lenO hv7 ⟨va, ls, rfl, v7, ok, ?_⟩
    refine ⟨_, rfl, by omega, by omega, ?_⟩
    walk_at "go"
    refine ⟨pn, c, pp, _, ls.length, d, rfl, p7, by omega, by omega, l4, pl6.ex e7, dk, fun pw e H8 ek wd e8 plw p8 => ?_⟩
    have v8 := v7.kp (e8.kept p7)
    walk_at "go"
    refine ⟨va, pw, ls, e, rfl, v8, ok, plw, ek, fun rb H9 e9 rr9 => ?_⟩
    have p9 := p8.ex e9
    walk_at "go"
    refine ⟨pn, c, _, 6, rfl, p9, by omega, by omega, by omega, fun s H10 hs e10 p10 => ?_⟩
    have e79 : Ep pn H7 H10 := (e8.tr e9.ep).tr e10
    have v10 := v7.kp (e79.kept p7)
    obtain ⟨dv10, hv10⟩ := id v10
    have r10 := r7.kp (e79.kept p7)
    have rr10 := rr9.kp (e10.kept p9)
    have pl10 := (pl6.ex e7).ep p7 e79
    walk_at "go"
    rw [show (1 : Int) + (s : Int) = ((1 + s : Nat) : Int) by omega]
    refine g_r1 (by decide) (by decide) ?_
    rw [show (2 : Int).toNat = 2 from rfl]
    refine g_lcI walk_r0 (by decide) (fun D j acc H' => Ep pn H10 H' ∧ PenAt H' pn c (1000 * i + 200 + j * 60) ∧ ∃ rs : List (Addr × List Nat), acc = rs.map (fun r => V.ref r.1) ∧ rs.length = j ∧ ∀ r ∈ rs, RowAt H' r.1 ls.length r.2 ∧ r.2.length = 1 + s ∧ r.1 ≠ D) (fun D H' hD e => ⟨e ▸ Ep.nw hD, ?_, [], rfl, rfl, fun r z => by cases z⟩) (fun _ _ _ _ _ _ _ => trivial) (fun D j acc x H11 H12 hj hD hl hac z y Yes No hy _ => ?_) fun D acc H11 hD _ hl z => ?_
    · rw [e]
      exact (p10.up (p10.fr hD)).le (by omega)
    · obtain ⟨e11, p11, rs, rfl, rl, rw_⟩ := z
      obtain ⟨rfl, rfl⟩ := y
      have v11 := v10.kp (e11.kept p10)
      obtain ⟨dv11, hv11⟩ := id v11
      walk_at "go"
      refine g_lenO hv11 ⟨va, ls, rfl, v11, ok, ?_⟩
      refine ⟨_, rfl, by omega, by omega, ?_⟩
      walk_at "go"
      refine ⟨pn, c, pp, _, ls.length, 1 + s, d, rfl, p11, by omega, by omega, l4, pl10.ep p10 e11, dk, by omega, by omega, fun r ns H13 nr nl e13 row p13 => ?_⟩
      have fD := p10.fr hD
      have hl13 := e13 D _ fD.1 hl
      have rD : r ≠ D := fun z => by rw [z, hl] at nr; cases nr
      refine hy _ H13 hl13 ⟨(e11.tr e13).up hD, (p13.up fD).le (by omega), rs ++ [(r, ns)], by simp, by simp [rl], fun t ht => ?_⟩
      rcases List.mem_append.mp ht with z | z
      · obtain ⟨w1, w2, w3⟩ := rw_ t z
        have w4 := w1.ep p11 e13
        exact ⟨⟨(upd_ne w3).trans w4.1, w4.2⟩, w2, w3⟩
      · have ez : t = (r, ns) := by simpa using z
        subst ez
        exact ⟨⟨(upd_ne rD).trans row.1, row.2⟩, nl, rD⟩
    · obtain ⟨e11, p11, rs, rfl, rl, rows⟩ := z
      have v11 := v10.kp (e11.kept p10)
      obtain ⟨⟨t1, ns⟩, ⟨t2, ms⟩, rfl⟩ : ∃ r1 r2, rs = [r1, r2] := by
        match rs, rl with
        | [r1, r2], _ => exact ⟨r1, r2, rfl⟩
      obtain ⟨w1, n1, _⟩ := rows (t1, ns) (by simp)
      obtain ⟨w2, n2, _⟩ := rows (t2, ms) (by simp)
      have w1 : RowAt H11 t1 ls.length ns := w1
      have w2 : RowAt H11 t2 ls.length ms := w2
      have n1 : ns.length = 1 + s := n1
      have n2 : ms.length = 1 + s := n2
      walk_at "go"
      refine g_ixL (sq_l hl) (atI_nat (j := 0) rfl) ?_
      walk_at "go"
      refine ⟨va, t1, ls, ns, rfl, v11, ok, w1, by omega, by omega, fun l1 H12 e12 la => ?_⟩
      walk_at "go"
      refine g_ixL (sq_l (e12 _ _ hl)) (atI_nat (j := 1) rfl) ?_
      walk_at "go"
      refine ⟨va, t2, ls, ms, rfl, v11.ex e12, ok, w2.ex e12, by omega, by omega, fun l2 H13 e13 lb => ?_⟩
      have la13 := la.ex e13
      obtain ⟨x1, x2, x3, x4, hla, _⟩ := id la13
      obtain ⟨y1, y2, y3, y4, hlb, _⟩ := id lb
      walk_at "go"
      refine g_binO hla hlb ⟨l1, l2, ls, ns, ms, rfl, ok, la13, lb, by omega, by omega, by omega, fun n hn => by have := (w1.2 n hn).1; omega, fun lo H14 e14 _ lor => ?_⟩
      have la14 := la13.ex e14
      have lb14 := lb.ex e14
      have e1114 : Ex H11 H14 := (e12.tr e13).tr e14
      have r14 := (r10.kp (e11.kept p10)).kp e1114.kept
      have rr14 := (rr10.kp (e11.kept p10)).kp e1114.kept
      obtain ⟨_, _, _, _, _, _, hra, _⟩ := id r14
      obtain ⟨_, _, _, _, _, _, hrb, _⟩ := id rr14
      have eor : (ors ns ms).length = 1 + s := by rw [ors_len, n1]
      have en : ns.length = ms.length := by omega
      walk_at "go"
      refine g_r1 (by omega) (by omega) ?_
      rw [Int.toNat_natCast]
      refine g_forW walk_r0 (fun j σ' H' => (∃ s8 s13, σ' = [some (.ref a), some (.ref pn), some (.int (i : Int)), some (.ref va), some (.ref pp), some (.int ((1 + s : Nat) : Int)), some (.ref D), some (.ref lo), s8, some (.ref ra), some (.ref rb), some (.ref l1), some (.ref l2), s13, s14]) ∧ Ex H14 H') ⟨⟨_, _, rfl⟩, Ex.rfl'⟩ (fun _ _ _ _ _ => trivial) (fun j x σ' H15 H16 hj z y => ?_) (fun σ' H15 z => ?_)
      · obtain ⟨⟨s8, s13, rfl⟩, e15⟩ := z
        obtain ⟨rfl, rfl⟩ := y
        walk_at "go"
        refine g_cut (fun σ' H' => σ' = [some (.ref a), some (.ref pn), some (.int (i : Int)), some (.ref va), some (.ref pp), some (.int ((1 + s : Nat) : Int)), some (.ref D), some (.ref lo), some (.int (j : Int)), some (.ref ra), some (.ref rb), some (.ref l1), some (.ref l2), some (.bl (decide (P_fits d ns (j : Int) ∧ P_fits d ms (j : Int)))), s14] ∧ Ex H14 H') ?_ ?_
        · walk_at "go"
          refine g_mt (e15 _ _ hra) rfl ?_
          walk_at "go"
          refine ⟨ra, l1, ls, d, ns, (j : Int), rfl, r14.kp e15.kept, dk.n4, la14.ex e15, by omega, fun H17 e17 => ?_⟩
          have e_17 := e15.tr e17
          walk_at "go"
          refine if_split (fun f1 => ?_) (fun f1 => ?_)
          · walk_at "go"
            refine g_mt (e_17 _ _ hra) rfl ?_
            walk_at "go"
            refine ⟨ra, l2, ls, d, ms, (j : Int), rfl, r14.kp e_17.kept, dk.n4, lb14.ex e_17, by omega, fun H18 e18 => ?_⟩
            walk_at "go"
            refine ⟨?_, e_17.tr e18⟩
            rw [show decide (P_fits d ns (j : Int) ∧ P_fits d ms (j : Int)) = decide (P_fits d ms (j : Int)) from decide_eq_decide.mpr ⟨fun y => y.2, fun y => ⟨f1, y⟩⟩]
            rfl
          · walk_at "go"
            refine ⟨?_, e_17⟩
            rw [decide_eq_false (fun y : P_fits d ns (j : Int) ∧ P_fits d ms (j : Int) => f1 y.1)]
            rfl
        · rintro σ' H17 ⟨rfl, e17⟩
          refine g_cut (fun σ' H' => σ' = [some (.ref a), some (.ref pn), some (.int (i : Int)), some (.ref va), some (.ref pp), some (.int ((1 + s : Nat) : Int)), some (.ref D), some (.ref lo), some (.int (j : Int)), some (.ref ra), some (.ref rb), some (.ref l1), some (.ref l2), some (.bl (decide (P_fits d ns (j : Int) ∧ P_fits d ms (j : Int)))), s14] ∧ Ex H14 H') ?_ ?_
          · walk_at "go"
            refine g_mt (e17 _ _ hra) rfl ?_
            walk_at "go"
            refine ⟨ra, lo, ls, d, ors ns ms, (j : Int), rfl, r14.kp e17.kept, dk.n4, lor.ex e17, by omega, fun H18 e18 => ?_⟩
            have e_18 := e17.tr e18
            walk_at "go"
            refine if_split (fun f1 => ?_) (fun f1 => ?_)
            · walk_at "go"
              rw [decide_eq_true (fits_or en f1)]
              walk_at "go"
              exact ⟨rfl, e_18⟩
            · walk_at "go"
              exact ⟨rfl, e_18⟩
          · rintro σ' H18 ⟨rfl, e18⟩
            refine g_cut (fun σ' H' => σ' = [some (.ref a), some (.ref pn), some (.int (i : Int)), some (.ref va), some (.ref pp), some (.int ((1 + s : Nat) : Int)), some (.ref D), some (.ref lo), some (.int (j : Int)), some (.ref ra), some (.ref rb), some (.ref l1), some (.ref l2), some (.bl (decide (P_fits d ns (j : Int) ∧ P_fits d ms (j : Int)))), s14] ∧ Ex H14 H') ?_ ?_
            · walk_at "go"
              refine g_mt (e18 _ _ hra) rfl ?_
              walk_at "go"
              refine ⟨ra, lo, ls, d, ors ns ms, (j : Int), rfl, r14.kp e18.kept, dk.n4, dk.hk, lor.ex e18, by omega, fun H19 e19 => ?_⟩
              have e_19 := e18.tr e19
              walk_at "go"
              refine if_split (fun f1 => ?_) (fun f1 => ?_)
              · walk_at "go"
                refine g_mt (e_19 _ _ hra) rfl ?_
                walk_at "go"
                refine ⟨ra, l1, ls, d, ns, (j : Int), rfl, r14.kp e_19.kept, dk.n4, dk.hk, la14.ex e_19, by omega, fun H20 e20 => ?_⟩
                have e_20 := e_19.tr e20
                walk_at "go"
                refine ifn_split (fun f2 => ?_) (fun f2 => ?_)
                · walk_at "go"
                  refine g_mt (e_20 _ _ hra) rfl ?_
                  walk_at "go"
                  refine ⟨ra, l2, ls, d, ms, (j : Int), rfl, r14.kp e_20.kept, dk.n4, dk.hk, lb14.ex e_20, by omega, fun H21 e21 => ?_⟩
                  rw [decide_eq_true ((hits_or en dk.hk f1).resolve_left f2)]
                  walk_at "go"
                  exact ⟨rfl, e_20.tr e21⟩
                · walk_at "go"
                  exact ⟨rfl, e_20⟩
              · walk_at "go"
                exact ⟨rfl, e_19⟩
            · rintro σ' H19 ⟨rfl, e19⟩
              refine g_cut (fun σ' H' => σ' = [some (.ref a), some (.ref pn), some (.int (i : Int)), some (.ref va), some (.ref pp), some (.int ((1 + s : Nat) : Int)), some (.ref D), some (.ref lo), some (.int (j : Int)), some (.ref ra), some (.ref rb), some (.ref l1), some (.ref l2), some (.bl (decide (P_fits d ns (j : Int) ∧ P_fits d ms (j : Int)))), s14] ∧ Ex H14 H') ?_ ?_
              · walk_at "go"
                refine g_mt (e19 _ _ hra) rfl ?_
                walk_at "go"
                refine ⟨ra, l1, ls, d, ns, (j : Int), rfl, r14.kp e19.kept, dk.n4, la14.ex e19, by omega, fun H20 e20 => ?_⟩
                have e_20 := e19.tr e20
                walk_at "go"
                refine if_split (fun f1 => ?_) (fun f1 => ?_)
                · walk_at "go"
                  refine g_mt (e_20 _ _ hrb) rfl ?_
                  walk_at "go"
                  refine ⟨rb, l1, ls, e, ns, (j : Int), rfl, rr14.kp e_20.kept, ek.n4, la14.ex e_20, by omega, fun H21 e21 => ?_⟩
                  rw [decide_eq_true (fits_wide wd f1)]
                  walk_at "go"
                  exact ⟨rfl, e_20.tr e21⟩
                · walk_at "go"
                  exact ⟨rfl, e_20⟩
              · rintro σ' H20 ⟨rfl, e20⟩
                walk_at "go"
                refine g_mt (e20 _ _ hra) rfl ?_
                walk_at "go"
                refine ⟨ra, l1, ls, d, ns, (j : Int), rfl, r14.kp e20.kept, dk.n4, dk.hk, la14.ex e20, by omega, fun H21 e21 => ?_⟩
                have e_21 := e20.tr e21
                walk_at "go"
                refine if_split (fun f1 => ?_) (fun f1 => ?_)
                · walk_at "go"
                  refine g_mt (e_21 _ _ hrb) rfl ?_
                  walk_at "go"
                  refine ⟨rb, l1, ls, e, ns, (j : Int), rfl, rr14.kp e_21.kept, ek.n4, ek.hk, la14.ex e_21, by omega, fun H22 e22 => ?_⟩
                  rw [decide_eq_true (hits_wide wd f1)]
                  walk_at "go"
                  exact ⟨⟨_, _, rfl⟩, e_21.tr e22⟩
                · walk_at "go"
                  exact ⟨⟨_, _, rfl⟩, e_21⟩
      · obtain ⟨⟨s8, s13, rfl⟩, e15⟩ := z
        have e1115 := e1114.tr e15
        walk_at "go"
        refine g_ixL (sq_l (e1115 _ _ hl)) (atI_nat (j := 0) rfl) ?_
        walk_at "go"
        refine ⟨pn, c, va, ra, t1, _, ls, d, ns, rfl, p11.ex e1115, by omega, v11.ex e1115, ok, r14.kp e15.kept, dk, w1.ex e1115, by omega, by omega, fun H16 e16 p16 => ?_⟩
        walk_at "go"
        exact ⟨⟨_, _, _, _, _, _, _, _, _, _, _, _, _, rfl⟩, p16.le (by omega)⟩
  · obtain ⟨⟨s2, s3, s4, s5, s6, s7, s8, s9, s10, s11, s12, s13, s14, rfl⟩, p2⟩ := z
    walk_at "go"
    exact q H2
theorem c_law (T : HD K mg) : Gbl P w K mg base "law" 10 (spLaw K) := by
  obtain ⟨fd, F⟩ := T.fnd 46 rfl
  exact ⟨_, fd, ["_law_script"], ok_law T F, T.g_law, F.kp, F.bindsN fun _ _ _ _ _ _ us hl => match us, hl with | [_], _ => rfl⟩
end
theorem facts {w : World} {K : PySem.W.Frag} {h : Heap} {mg : Str → Option Value} {f : Addr} (X : K.In h) (G : h.Ns mainGlobals mg) (hfa : mg ("law" : Str) = some (.ref f)) (c : SaysM exAll fnL K) : LamX.LawAtS PySem.Challenge.rw_linestrikes_k29_whole_rules_and_narrower w K (L2.CX (PySem.Challenge.rw_linestrikes_k29_whole_rules_and_narrower).prog w) 10 63 "_law_script" mg f h := by
  have T : HD K mg := ⟨⟨h, X, G⟩, c⟩
  obtain ⟨fd, F⟩ := T.fnd 46 rfl
  have e := hfa.symm.trans T.g_law
  cases e
  have b := FunD.bindsA (ps := ["_law_script"]) F fun _ _ _ _ _ _ us hl => match us, hl with | [_], _ => rfl
  exact ⟨fd, [], spLaw K, (fun p z => nomatch z), (fun p z => nomatch z), (fun p z => nomatch z), fun s v => b s [v] rfl, fun H a ns _ _ _ hS => ⟨a, ns, rfl, hS, fun _ => rfl⟩, fun base _ _ _ => ok_law T F⟩
end LK
open PySem PySem.W PySem.Calls PyProof.Rows
theorem PySem.Challenge.cw_linestrikes_k29_whole_rules_and_narrower_holds : PySem.Challenge.rw_linestrikes_k29_whole_rules_and_narrower.Holds := by
  w_on
  o_law
  refine HandSHeadRun.head_any (r := OpenLaw.row PySem.Challenge.rw_linestrikes_k29_whole_rules_and_narrower) (q := view (OpenLaw.row PySem.Challenge.rw_linestrikes_k29_whole_rules_and_narrower).prog [54]) (H := LK.hk) (ob := LK.ob) (M := 12000) (loose := LK.loose) (d := HandSHeadRun.topDef (OpenLaw.row PySem.Challenge.rw_linestrikes_k29_whole_rules_and_narrower).prog 54) (kwd := []) LK.ob_eq
    (by kernel_rfl) (fun s => by kernel_rfl) LK.run (by kernel_rfl) (by kernel_rfl) (by kernel_rfl) (by rfl) (by first | assumption | decide +kernel) (by decide +kernel) ⟨rfl, rfl, rfl, rfl, rfl, by decide +kernel⟩ ?hw ?hc
  case hw => w_witness2
  case hc =>
    refine LamX.walk_ofTsE (l := PySem.Challenge.rw_linestrikes_k29_whole_rules_and_narrower) (n := 63) (k := 10) (x := "_law_script") (CX := fun w => L2.CX (PySem.Challenge.rw_linestrikes_k29_whole_rules_and_narrower).prog w) rfl (by decide) (by kernel_rfl) ⟨rfl, by decide, by decide⟩ ?F (fun w H s e s' z => let ⟨_, _, _, _, _, _, _, _, _, _, _, _, y⟩ := z; y)
    intro w mg fa h Y G hmg0
    obtain ⟨K, KX, c⟩ := Y
    have hmg : mg ("law" : PySem.Str) = some (.ref fa) := by
      have e : (HandSHeadRun.topDef (OpenLaw.row PySem.Challenge.rw_linestrikes_k29_whole_rules_and_narrower).prog 54).name = ("law" : PySem.Str) := by kernel_rfl
      rw [← e]
      exact hmg0
    exact ⟨K, KX, LK.facts KX G hmg c⟩

