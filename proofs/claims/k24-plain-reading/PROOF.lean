import PyProof.Rows.All
import Wide.All
import OpenK.AllK
import Wide.FinOn
import HandS.Defaults
import HandS.Head0
import HandS.Head1
import HandS.Head2
import HandS.HeadEnd
import HandS.HeadHook1
import HandS.HeadHook2
import HandS.HeadNt
import HandS.ForMost
import HandS.Codes
import HandS.Style
import HandS.IsInst
import KE.KDictSum
import HandS.Conv
import HandS.ExcOwn
import HandS.ExcIs
import HandS.HotCalls
import HandS.Strs
import HandS.Zip
import HandS.Rev
import HandS.DictComp
import PyProof.NeKinds
import KE.KEqNest
import HandS.Finally
import PyProof.DictUpdate
import HandS.TryOnly
import HandS.ListItems
import HandS.Flow
import HandS.TupMul
import HandS.SetKeys
import HandS.TupAny
import HandS.Walk
import HandS.More
import PySem.Challenge.RW_rungworks_k24_whole_plain_reading
set_option Elab.async false
set_option linter.all false
set_option maxRecDepth 100000
set_option maxHeartbeats 2000000
/-! The head by one kernel run: every fact a law leans on is one Bool of the part of the heap that the module's names reach. -/
namespace Hd
open PySem PySem.Spec PyProof.Rows L2
/-! ## what is looked at -/
def tells (K : PySem.W.Frag) : List He5.DefA → List He5.FnW
  | [] => []
  | d :: r => He5.fnA K (d.at_ K) :: tells K r
def vals : List He5.DefA → List He5.FnW
  | [] => []
  | d :: r => d.val :: vals r
theorem tells_eq (K : PySem.W.Frag) : ∀ l, tells K l = l.map fun d => He5.fnA K (d.at_ K)
  | [] => rfl
  | d :: r => congrArg (He5.fnA K (d.at_ K) :: ·) (tells_eq K r)
theorem vals_eq : ∀ l, vals l = l.map He5.DefA.val
  | [] => rfl
  | d :: r => congrArg (d.val :: ·) (vals_eq r)
/-- not by List.map: of two maps over one list the kernel compares the functions first, over all of the heap -/
def seen (B : PySem.W.Frag → List Bool) (fn : List He5.DefA) (K : PySem.W.Frag) : He.AlD := ((B K).all (fun b => b) && fn.all fun d => d.ok K, tells K fn)
def want (fn : List He5.DefA) : He.AlD := (true, vals fn)
def Says (B : PySem.W.Frag → List Bool) (fn : List He5.DefA) (K : PySem.W.Frag) : Prop := seen B fn K = want fn
/-- n: the addresses that are looked at -/
def seenG (n : List Addr) (B : PySem.W.Frag → List Bool) (fn : List He5.DefA) (g : Addr → Option Obj) : He.AlD := seen B fn (He.frG g n)
def hook (n : List Addr) (B : PySem.W.Frag → List Bool) (fn : List He5.DefA) : PySem.W.Hook where
  α := He.AlD
  obs := fun s => seenG n B fn s.heap.get?
  val := fun _ => want fn
  says := fun _ h => ∃ K : PySem.W.Frag, K.In h ∧ Says B fn K
  of := fun _ _ e => ⟨_, He.frG_in, e⟩
  keeps := fun _ _ _ ⟨K, i, c⟩ k => ⟨K, PySem.W.Frag.In.keeps i k, c⟩
theorem seenG_eq {n : List Addr} {B : PySem.W.Frag → List Bool} {fn : List He5.DefA} {g : Addr → Option Obj} {s : Shared} (h : ∀ a, g a = s.heap.get? a) : seenG n B fn g = (hook n B fn).obs s := by
  obtain rfl : g = s.heap.get? := funext h
  rfl
section
variable {B : PySem.W.Frag → List Bool} {fn : List He5.DefA} {K : PySem.W.Frag}
theorem Says.at_ (c : Says B fn K) (i : Nat) {b : Bool} (h : (B K)[i]? = some b) : b = true :=
  List.all_eq_true.mp (Bool.and_eq_true_iff.mp (congrArg Prod.fst c)).1 b (List.mem_of_getElem? h)
theorem Says.def_ (c : Says B fn K) (i : Nat) {d : He5.DefA} (h : fn[i]? = some d) : ∃ fd, FunD K d.name d.qual d.params d.body d.scope (d.dvs K) (d.kws K) (d.at_ K) fd := by
  have e : (tells K fn)[i]? = (vals fn)[i]? := congrArg (fun l => l[i]?) (congrArg Prod.snd c)
  rw [tells_eq, vals_eq] at e
  rw [List.getElem?_map, List.getElem?_map, h] at e
  exact He5.DefA.funD (Option.some.inj e) (List.all_eq_true.mp (Bool.and_eq_true_iff.mp (congrArg Prod.fst c)).2 d (List.mem_of_getElem? h))
end
/-! ## facts as Bools -/
section
variable (K : PySem.W.Frag)
/-- the module's x is the object at a -/
def gB (x : Str) (a : Addr) : Bool := He.eqO (PySem.W.nsIn K mainGlobals x) (some (some (.ref a)))
def noB (x : Str) : Bool := He.eqO (PySem.W.nsIn K mainGlobals x) (some none)
def conB (x : Str) (v : V) : Bool := match PySem.W.nsIn K mainGlobals x with
  | some (some u) => He.relB v u
  | _ => false
def tupB (x : Str) (vs : List V) : Bool := match PySem.W.nsIn K mainGlobals x with
  | some (some (.ref a)) => (match K.lookup a with
    | some ⟨.type c, _, .seq its _, _⟩ => decide (c = "tuple") && (decide (its.size ≤ sizeLine) && He.relAll vs its.toList)
    | _ => false)
  | _ => false
def clsB (x : Str) (C : Addr) : Bool := gB K x C && (PySem.W.plainGet K C Str.empty && (PySem.W.hasDictIn K C && (PySem.W.plainOver K C && (He.eqO (PySem.W.findIn K (.ref C) "__setattr__") (some (some (.builtin "object.__setattr__"))) &&
  (He.eqO (PySem.W.findIn K (.ref C) "__class__") (some (some (.builtin "object.__class__"))) && (He.eqO (PySem.W.specialIn K (.builtin "object.__class__") "__get__") (some (some (.builtin "getset_descriptor.__get__"))) &&
  (decide (PySem.W.takesIn K (.builtin "object.__class__") = some true) && (decide (PySem.W.mroIn K C (.type "object") = some true) && (PySem.W.makesIn K C && PySem.W.keepIn K (.ref C))))))))))
def errB (x : Str) (C : Addr) : Bool := gB K x C && (decide (PySem.W.subIn K (.ref C) (.type "BaseException") = some true) && (decide (PySem.W.typeIn K (.ref C) = some (.type "type")) && PySem.W.hasDictIn K C))
def mroB (C L : Addr) : Bool := match PySem.W.clsIn K C with
  | some cd => decide (cd.mro = [.ref C, .ref L, .type "ValueError", .type "Exception", .type "BaseException", .type "object"])
  | none => false
def excB (x : Str) (C L : Addr) : Bool := gB K x C && (PySem.W.excIn K C [.type "ValueError", .type "Exception", .type "BaseException", .type "object"] "ValueError.__new__" && (PySem.W.keepIn K (.ref C) &&
  (He.eqO (PySem.W.findIn K (.ref C) "__getattribute__") (some (some (.builtin "BaseException.__getattribute__"))) && (He.eqO (PySem.W.findIn K (.ref C) "__getattr__") (some none) && (decide (PySem.W.subIn K (.ref C) (.type "BaseException") = some true) &&
  (PySem.W.hasDictIn K C && (He.eqO (PySem.W.findIn K (.ref C) "__class__") (some (some (.builtin "object.__class__"))) && (He.eqO (PySem.W.specialIn K (.builtin "object.__class__") "__get__") (some (some (.builtin "getset_descriptor.__get__"))) &&
  (decide (PySem.W.takesIn K (.builtin "object.__class__") = some true) && (decide (PySem.W.mroIn K C (.type "object") = some true) && (decide (PySem.W.typeIn K (.ref C) = some (.type "type")) && mroB K C L)))))))))))
def naB (C : Addr) (x : Str) : Bool := He.eqO (PySem.W.findIn K (.ref C) x) (some none)
def oneB (a b : Addr) (r : Bool) : Bool := decide (PySem.W.kitOne K (.ref a) (.ref b) = some r)
def metB (C : Addr) (m : Str) : Bool := He.eqO (PySem.W.findIn K (.ref C) m) (some (some (.ref (He.ma K C m)))) && (PySem.W.isFn K (.ref (He.ma K C m)) && PySem.W.keepIn K (.ref (He.ma K C m)))
def ca (C : Addr) (m : Str) : Addr := match PySem.W.findCls K (.ref C) (.type "type") m with
  | some (.val (.ref f)) => f
  | _ => 0
def cfnB (C : Addr) (m : Str) : Bool := PySem.W.readsIn K C (.type "type") && (He.eqO (PySem.W.specialIn K (.ref C) "__getattribute__") (some (some (.builtin "type.__getattribute__"))) && (match PySem.W.findCls K (.ref C) (.type "type") m with
  | some (.val (.ref _)) => true
  | _ => false))
end
theorem two {a b : Bool} (h : (a && b) = true) : a = true ∧ b = true := Bool.and_eq_true_iff.mp h
/-! ## defs -/
/-- a def as the text has it -/
def dA (at_ : PySem.W.Frag → Addr) (name qual : Str) (st : Stmt) : He5.DefA := ⟨at_, name, qual, defArgs st, defBody st, defScope st, [], []⟩
/-! ## the run in parts -/
noncomputable def endOf (r : PySem.W.OpenRow) (M : Nat) (w : World) (os : OsState) : Option PySem.W.SharedT := HandSHeadRun.endF (HandSHeadRun.stepQ (HandSHeadRun.denQ HandSHeadRun.tabQ) r.prog w) M r.prog w os
/-- some of the facts hold behind the top -/
def Part (r : PySem.W.OpenRow) (M : Nat) (n : List Addr) (B : PySem.W.Frag → List Bool) (fn : List He5.DefA) (w : World) : Prop := ∀ os : OsState, (endOf r M w os).map (fun s => seenG n B fn (HandSHeadRun.getT s)) = some (want fn)
theorem seen_app {B1 B2 : PySem.W.Frag → List Bool} {f1 f2 : List He5.DefA} {K : PySem.W.Frag} (h1 : seen B1 f1 K = want f1) (h2 : seen B2 f2 K = want f2) : seen (fun K => B1 K ++ B2 K) (f1 ++ f2) K = want (f1 ++ f2) := by
  obtain ⟨a1, b1⟩ := Prod.mk.inj h1
  obtain ⟨a2, b2⟩ := Prod.mk.inj h2
  obtain ⟨c1, d1⟩ := two a1
  obtain ⟨c2, d2⟩ := two a2
  refine Prod.ext ?_ ?_
  · show ((B1 K ++ B2 K).all (fun b => b) && (f1 ++ f2).all fun d => d.ok K) = true
    rw [List.all_append, List.all_append, c1, c2, d1, d2]
    rfl
  · show tells K (f1 ++ f2) = vals (f1 ++ f2)
    rw [tells_eq, vals_eq] at b1 b2 ⊢
    rw [List.map_append, List.map_append, b1, b2]
theorem Part.app {r : PySem.W.OpenRow} {M : Nat} {n : List Addr} {B1 B2 : PySem.W.Frag → List Bool} {f1 f2 : List He5.DefA} {w : World} (h1 : Part r M n B1 f1 w) (h2 : Part r M n B2 f2 w) : Part r M n (fun K => B1 K ++ B2 K) (f1 ++ f2) w := fun os => by
  have a := h1 os
  have b := h2 os
  cases e : endOf r M w os with
  | none =>
    rw [e] at a
    cases a
  | some s =>
    rw [e] at a b
    exact congrArg some (seen_app (Option.some.inj a) (Option.some.inj b))
theorem run_of {r : PySem.W.OpenRow} {q : Program} {M : Nat} {n : List Addr} {B : PySem.W.Frag → List Bool} {fn : List He5.DefA} {loose : List Str} {w : World} (h0 : HandSHeadRun.RunEq r q PySem.W.Hook.none (fun _ => ()) M loose w) (h1 : Part r M n B fn w) :
    HandSHeadRun.RunEq r q (hook n B fn) (fun s => seenG n B fn (HandSHeadRun.getT s)) M loose w := fun os => by
  have a := h0 os
  have b := h1 os
  unfold endOf at b
  cases e : HandSHeadRun.endF (HandSHeadRun.stepQ (HandSHeadRun.denQ HandSHeadRun.tabQ) r.prog w) M r.prog w os with
  | none =>
    rw [e] at a
    cases a
  | some s =>
    rw [e] at a b
    have a1 := Option.some.inj a
    have b1 := Option.some.inj b
    obtain ⟨a2, a3⟩ := Prod.mk.inj a1
    obtain ⟨a4, _⟩ := Prod.mk.inj a3
    exact congrArg some (Prod.ext a2 (Prod.ext a4 b1))
end Hd

set_option Elab.async false
set_option linter.all false
set_option maxRecDepth 100000
set_option maxHeartbeats 2000000
section
open PySem PySem.Spec L2
namespace Hh
def top (i : Nat) : Stmt := PySem.Challenge.pw_rungworks_k24_whole_plain_reading.main.body.getD i (.Pass ⟨0, 0, 0, 0⟩)
abbrev sSIGNS : Str := "abcdefghijklmnopqrstuvwxyz"
def keptL : List Str := ["on", "off", "and", "or", "not", "set", "reset", "timer", "counter", "inputs", "outputs"]
def keptV : List V := keptL.map V.str
def facts0 (K : PySem.W.Frag) : List Bool := [Hd.gB K "law" (He.ga K "law"),
  Hd.gB K "_law_cell_at" (He.ga K "_law_cell_at"),
  Hd.gB K "_law_mixed" (He.ga K "_law_mixed"),
  Hd.noB K "len",
  Hd.gB K "_law_word" (He.ga K "_law_word"),
  Hd.gB K "_law_names" (He.ga K "_law_names"),
  Hd.noB K "range",
  Hd.gB K "_law_told" (He.ga K "_law_told"),
  Hd.gB K "_law_end" (He.ga K "_law_end"),
  Hd.gB K "_law_rungs" (He.ga K "_law_rungs"),
  Hd.gB K "_law_drawn" (He.ga K "_law_drawn"),
  Hd.noB K "tuple",
  Hd.noB K "list",
  Hd.noB K "reversed",
  Hd.gB K "is_word" (He.ga K "is_word"),
  Hd.gB K "is_name" (He.ga K "is_name"),
  Hd.conB K "SIGNS" (.str sSIGNS),
  Hd.conB K "MOST_SIGNS" (.int 8),
  Hd.tupB K "KEPT" keptV,
  Hd.clsB K "Coil" (He.ga K "Coil"),
  Hd.clsB K "Latch" (He.ga K "Latch"),
  Hd.clsB K "Unlatch" (He.ga K "Unlatch"),
  Hd.clsB K "Timer" (He.ga K "Timer"),
  Hd.clsB K "Counter" (He.ga K "Counter"),
  Hd.clsB K "End" (He.ga K "End"),
  Hd.naB K (He.ga K "Coil") "name",
  Hd.naB K (He.ga K "Latch") "name",
  Hd.naB K (He.ga K "Unlatch") "name",
  Hd.naB K (He.ga K "Timer") "name",
  Hd.naB K (He.ga K "Counter") "name",
  Hd.naB K (He.ga K "Timer") "most",
  Hd.naB K (He.ga K "Counter") "most",
  Hd.metB K (He.ga K "Coil") "ahead",
  Hd.metB K (He.ga K "Latch") "ahead",
  Hd.metB K (He.ga K "Unlatch") "ahead",
  Hd.metB K (He.ga K "Timer") "ahead",
  Hd.metB K (He.ga K "Counter") "ahead",
  Hd.metB K (He.ga K "Coil") "behind",
  Hd.metB K (He.ga K "Latch") "behind",
  Hd.metB K (He.ga K "Unlatch") "behind",
  Hd.metB K (He.ga K "Timer") "behind",
  Hd.metB K (He.ga K "Counter") "behind",
  Hd.metB K (He.ga K "Coil") "text",
  Hd.metB K (He.ga K "Latch") "text",
  Hd.metB K (He.ga K "Unlatch") "text",
  Hd.metB K (He.ga K "Timer") "text",
  Hd.metB K (He.ga K "Counter") "text",
  Hd.metB K (He.ga K "Coil") "__init__",
  Hd.metB K (He.ga K "Latch") "__init__",
  Hd.metB K (He.ga K "Unlatch") "__init__",
  Hd.metB K (He.ga K "Timer") "__init__",
  Hd.metB K (He.ga K "Counter") "__init__",
  Hd.cfnB K (He.ga K "End") "__init__",
  decide ([(He.ga K "Coil"), (He.ga K "Latch"), (He.ga K "Unlatch"), (He.ga K "Timer"), (He.ga K "Counter")].Nodup),
  Hd.noB K "isinstance",
  Hd.noB K "int",
  Hd.noB K "bool",
  Hd.noB K "str",
  Hd.conB K "MOST_COUNT" (.int 9),
  Hd.oneB K (He.ga K "Coil") (He.ga K "Coil") true,
  Hd.oneB K (He.ga K "Coil") (He.ga K "Latch") false,
  Hd.oneB K (He.ga K "Coil") (He.ga K "Unlatch") false,
  Hd.oneB K (He.ga K "Coil") (He.ga K "Timer") false,
  Hd.oneB K (He.ga K "Coil") (He.ga K "Counter") false,
  Hd.oneB K (He.ga K "Latch") (He.ga K "Coil") false,
  Hd.oneB K (He.ga K "Latch") (He.ga K "Latch") true,
  Hd.oneB K (He.ga K "Latch") (He.ga K "Unlatch") false,
  Hd.oneB K (He.ga K "Latch") (He.ga K "Timer") false,
  Hd.oneB K (He.ga K "Latch") (He.ga K "Counter") false,
  Hd.oneB K (He.ga K "Unlatch") (He.ga K "Coil") false,
  Hd.oneB K (He.ga K "Unlatch") (He.ga K "Latch") false,
  Hd.oneB K (He.ga K "Unlatch") (He.ga K "Unlatch") true,
  Hd.oneB K (He.ga K "Unlatch") (He.ga K "Timer") false,
  Hd.oneB K (He.ga K "Unlatch") (He.ga K "Counter") false,
  Hd.oneB K (He.ga K "Timer") (He.ga K "Coil") false,
  Hd.oneB K (He.ga K "Timer") (He.ga K "Latch") false,
  Hd.oneB K (He.ga K "Timer") (He.ga K "Unlatch") false,
  Hd.oneB K (He.ga K "Timer") (He.ga K "Timer") true,
  Hd.oneB K (He.ga K "Timer") (He.ga K "Counter") false,
  Hd.oneB K (He.ga K "Counter") (He.ga K "Coil") false,
  Hd.oneB K (He.ga K "Counter") (He.ga K "Latch") false,
  Hd.oneB K (He.ga K "Counter") (He.ga K "Unlatch") false,
  Hd.oneB K (He.ga K "Counter") (He.ga K "Timer") false,
  Hd.oneB K (He.ga K "Counter") (He.ga K "Counter") true,
  Hd.oneB K (He.ga K "Coil") (He.ga K "End") true,
  Hd.oneB K (He.ga K "Latch") (He.ga K "End") true,
  Hd.oneB K (He.ga K "Unlatch") (He.ga K "End") true,
  Hd.oneB K (He.ga K "Timer") (He.ga K "End") true,
  Hd.oneB K (He.ga K "Counter") (He.ga K "End") true,
  Hd.errB K "LadderError" (He.ga K "LadderError"),
  Hd.excB K "NoName" (He.ga K "NoName") (He.ga K "LadderError"),
  Hd.excB K "NoPart" (He.ga K "NoPart") (He.ga K "LadderError"),
  Hd.excB K "NoEnd" (He.ga K "NoEnd") (He.ga K "LadderError"),
  Hd.excB K "NoLadder" (He.ga K "NoLadder") (He.ga K "LadderError"),
  Hd.excB K "NoRow" (He.ga K "NoRow") (He.ga K "LadderError"),
  decide ([(He.ga K "LadderError"), (He.ga K "NoName"), (He.ga K "NoPart"), (He.ga K "NoEnd"), (He.ga K "NoLadder"), (He.ga K "NoRow")].Nodup),
  Hd.clsB K "Rung" (He.ga K "Rung"),
  Hd.clsB K "Ladder" (He.ga K "Ladder"),
  Hd.clsB K "Counting" (He.ga K "Counting"),
  Hd.oneB K (He.ga K "Coil") (He.ga K "Counting") false]
def facts1 (K : PySem.W.Frag) : List Bool := [Hd.oneB K (He.ga K "Latch") (He.ga K "Counting") false,
  Hd.oneB K (He.ga K "Unlatch") (He.ga K "Counting") false,
  Hd.oneB K (He.ga K "Timer") (He.ga K "Counting") true,
  Hd.oneB K (He.ga K "Counter") (He.ga K "Counting") true,
  Hd.naB K (He.ga K "Rung") "part",
  Hd.naB K (He.ga K "Rung") "end",
  Hd.naB K (He.ga K "Ladder") "inputs",
  Hd.naB K (He.ga K "Ladder") "outputs",
  Hd.naB K (He.ga K "Ladder") "rungs",
  Hd.gB K "need_between" (He.ga K "need_between"),
  Hd.gB K "need_single" (He.ga K "need_single"),
  Hd.gB K "need_own" (He.ga K "need_own"),
  Hd.metB K (He.ga K "Rung") "__init__",
  Hd.metB K (He.ga K "Ladder") "__init__",
  Hd.metB K (He.ga K "Ladder") "written_names",
  Hd.noB K "set",
  Hd.noB K "any",
  Hd.conB K "MOST_NAMES" (.int 6),
  Hd.conB K "MOST_RUNGS" (.int 30),
  Hd.conB K "MOST_WRITTEN" (.int 20),
  Hd.clsB K "Fixed" (He.ga K "Fixed"),
  Hd.clsB K "Contact" (He.ga K "Contact"),
  Hd.clsB K "Turned" (He.ga K "Turned"),
  Hd.clsB K "Series" (He.ga K "Series"),
  Hd.clsB K "Branch" (He.ga K "Branch"),
  decide ([(He.ga K "Fixed"), (He.ga K "Contact"), (He.ga K "Turned"), (He.ga K "Series"), (He.ga K "Branch")].Nodup),
  Hd.naB K (He.ga K "Fixed") "value",
  Hd.naB K (He.ga K "Contact") "name",
  Hd.naB K (He.ga K "Turned") "part",
  Hd.naB K (He.ga K "Series") "parts",
  Hd.naB K (He.ga K "Branch") "parts",
  Hd.metB K (He.ga K "Fixed") "inner",
  Hd.metB K (He.ga K "Contact") "inner",
  Hd.metB K (He.ga K "Turned") "inner",
  Hd.metB K (He.ga K "Series") "inner",
  Hd.metB K (He.ga K "Branch") "inner",
  Hd.metB K (He.ga K "Fixed") "size",
  Hd.metB K (He.ga K "Contact") "size",
  Hd.metB K (He.ga K "Turned") "size",
  Hd.metB K (He.ga K "Series") "size",
  Hd.metB K (He.ga K "Branch") "size",
  Hd.metB K (He.ga K "Fixed") "depth",
  Hd.metB K (He.ga K "Contact") "depth",
  Hd.metB K (He.ga K "Turned") "depth",
  Hd.metB K (He.ga K "Series") "depth",
  Hd.metB K (He.ga K "Branch") "depth",
  Hd.metB K (He.ga K "Turned") "bounded",
  Hd.metB K (He.ga K "Series") "bounded",
  Hd.metB K (He.ga K "Branch") "bounded",
  Hd.noB K "sum",
  Hd.noB K "max",
  Hd.conB K "MOST_SIZE" (.int 60),
  Hd.conB K "MOST_DEEP" (.int 20),
  Hd.metB K (He.ga K "Fixed") "__init__",
  Hd.metB K (He.ga K "Contact") "__init__",
  Hd.metB K (He.ga K "Turned") "__init__",
  Hd.metB K (He.ga K "Series") "__init__",
  Hd.metB K (He.ga K "Branch") "__init__",
  Hd.gB K "single" (He.ga K "single"),
  Hd.gB K "joined" (He.ga K "joined"),
  Hd.gB K "part_of" (He.ga K "part_of"),
  Hd.gB K "_law_made" (He.ga K "_law_made"),
  Hd.gB K "_law_new" (He.ga K "_law_new"),
  Hd.gB K "_law_holds" (He.ga K "_law_holds"),
  Hd.gB K "_law_act" (He.ga K "_law_act"),
  Hd.gB K "_law_scan" (He.ga K "_law_scan"),
  Hd.noB K "min",
  Hd.clsB K "Works" (He.ga K "Works"),
  Hd.naB K (He.ga K "Works") "ladder",
  Hd.naB K (He.ga K "Works") "bits",
  Hd.naB K (He.ga K "Works") "counts",
  Hd.naB K (He.ga K "Works") "seen",
  Hd.metB K (He.ga K "Works") "__init__",
  Hd.metB K (He.ga K "Works") "bit",
  Hd.metB K (He.ga K "Works") "count",
  Hd.metB K (He.ga K "Works") "image",
  Hd.metB K (He.ga K "Works") "answers",
  Hd.noB K "dict",
  Hd.gB K "_law_truths" (He.ga K "_law_truths"),
  Hd.gB K "_law_whole" (He.ga K "_law_whole"),
  Hd.gB K "_law_no_count" (He.ga K "_law_no_count"),
  Hd.gB K "_law_as_told" (He.ga K "_law_as_told"),
  Hd.metB K (He.ga K "Works") "kept",
  Hd.metB K (He.ga K "Works") "put_back",
  Hd.gB K "_law_row" (He.ga K "_law_row"),
  Hd.metB K (He.ga K "Fixed") "holds",
  Hd.metB K (He.ga K "Contact") "holds",
  Hd.metB K (He.ga K "Turned") "holds",
  Hd.metB K (He.ga K "Series") "holds",
  Hd.metB K (He.ga K "Branch") "holds",
  Hd.noB K "all",
  Hd.gB K "need_row" (He.ga K "need_row"),
  Hd.metB K (He.ga K "Works") "act",
  Hd.metB K (He.ga K "Works") "count_on",
  Hd.metB K (He.ga K "Works") "scan",
  Hd.noB K "zip",
  Hd.gB K "_law_copied" (He.ga K "_law_copied"),
  Hd.gB K "_law_kept_right" (He.ga K "_law_kept_right"),
  Hd.gB K "_law_refused" (He.ga K "_law_refused"),
  Hd.gB K "_law_look" (He.ga K "_law_look"),
  Hd.gB K "_law_deed" (He.ga K "_law_deed")]
def facts : PySem.W.Frag → List Bool := (fun K => facts0 K ++ facts1 K)
def defs0 : List He5.DefA := [Hd.dA (fun K => He.ga K "law") "law" "law" (top 73),
  Hd.dA (fun K => He.ga K "_law_cell_at") "_law_cell_at" "_law_cell_at" (top 51),
  Hd.dA (fun K => He.ga K "_law_mixed") "_law_mixed" "_law_mixed" (top 52),
  Hd.dA (fun K => He.ga K "_law_word") "_law_word" "_law_word" (top 53),
  Hd.dA (fun K => He.ga K "_law_names") "_law_names" "_law_names" (top 54),
  Hd.dA (fun K => He.ga K "_law_told") "_law_told" "_law_told" (top 55),
  Hd.dA (fun K => He.ga K "_law_end") "_law_end" "_law_end" (top 56),
  Hd.dA (fun K => He.ga K "_law_rungs") "_law_rungs" "_law_rungs" (top 57),
  Hd.dA (fun K => He.ga K "_law_drawn") "_law_drawn" "_law_drawn" (top 58),
  Hd.dA (fun K => He.ga K "is_word") "is_word" "is_word" (top 12),
  Hd.dA (fun K => He.ga K "is_name") "is_name" "is_name" (top 13),
  Hd.dA (fun K => He.ma K (He.ga K "Coil") "ahead") "ahead" "End.ahead" (inClass (top 16) 1),
  Hd.dA (fun K => He.ma K (He.ga K "Latch") "ahead") "ahead" "Latch.ahead" (inClass (top 18) 0),
  Hd.dA (fun K => He.ma K (He.ga K "Unlatch") "ahead") "ahead" "Unlatch.ahead" (inClass (top 19) 0),
  Hd.dA (fun K => He.ma K (He.ga K "Timer") "ahead") "ahead" "Timer.ahead" (inClass (top 21) 0),
  Hd.dA (fun K => He.ma K (He.ga K "Counter") "ahead") "ahead" "Counter.ahead" (inClass (top 22) 0),
  Hd.dA (fun K => He.ma K (He.ga K "Coil") "behind") "behind" "End.behind" (inClass (top 16) 2),
  Hd.dA (fun K => He.ma K (He.ga K "Latch") "behind") "behind" "End.behind" (inClass (top 16) 2),
  Hd.dA (fun K => He.ma K (He.ga K "Unlatch") "behind") "behind" "End.behind" (inClass (top 16) 2),
  Hd.dA (fun K => He.ma K (He.ga K "Timer") "behind") "behind" "Counting.behind" (inClass (top 20) 1),
  Hd.dA (fun K => He.ma K (He.ga K "Counter") "behind") "behind" "Counting.behind" (inClass (top 20) 1),
  Hd.dA (fun K => He.ma K (He.ga K "Coil") "text") "text" "End.text" (inClass (top 16) 3),
  Hd.dA (fun K => He.ma K (He.ga K "Latch") "text") "text" "End.text" (inClass (top 16) 3),
  Hd.dA (fun K => He.ma K (He.ga K "Unlatch") "text") "text" "End.text" (inClass (top 16) 3),
  Hd.dA (fun K => He.ma K (He.ga K "Timer") "text") "text" "End.text" (inClass (top 16) 3),
  Hd.dA (fun K => He.ma K (He.ga K "Counter") "text") "text" "End.text" (inClass (top 16) 3),
  Hd.dA (fun K => He.ma K (He.ga K "Coil") "__init__") "__init__" "End.__init__" (inClass (top 16) 0),
  Hd.dA (fun K => He.ma K (He.ga K "Latch") "__init__") "__init__" "End.__init__" (inClass (top 16) 0),
  Hd.dA (fun K => He.ma K (He.ga K "Unlatch") "__init__") "__init__" "End.__init__" (inClass (top 16) 0),
  Hd.dA (fun K => He.ma K (He.ga K "Timer") "__init__") "__init__" "Counting.__init__" (inClass (top 20) 0),
  Hd.dA (fun K => He.ma K (He.ga K "Counter") "__init__") "__init__" "Counting.__init__" (inClass (top 20) 0),
  Hd.dA (fun K => Hd.ca K (He.ga K "End") "__init__") "__init__" "End.__init__" (inClass (top 16) 0),
  Hd.dA (fun K => He.ga K "need_between") "need_between" "need_between" (top 31),
  Hd.dA (fun K => He.ga K "need_single") "need_single" "need_single" (top 32),
  Hd.dA (fun K => He.ga K "need_own") "need_own" "need_own" (top 33),
  Hd.dA (fun K => He.ma K (He.ga K "Rung") "__init__") "__init__" "Rung.__init__" (inClass (top 30) 0),
  Hd.dA (fun K => He.ma K (He.ga K "Ladder") "__init__") "__init__" "Ladder.__init__" (inClass (top 34) 0),
  Hd.dA (fun K => He.ma K (He.ga K "Ladder") "written_names") "written_names" "Ladder.written_names" (inClass (top 34) 1),
  Hd.dA (fun K => He.ma K (He.ga K "Fixed") "inner") "inner" "Part.inner" (inClass (top 38) 0),
  Hd.dA (fun K => He.ma K (He.ga K "Contact") "inner") "inner" "Part.inner" (inClass (top 38) 0),
  Hd.dA (fun K => He.ma K (He.ga K "Turned") "inner") "inner" "Turned.inner" (inClass (top 41) 1),
  Hd.dA (fun K => He.ma K (He.ga K "Series") "inner") "inner" "Group.inner" (inClass (top 42) 1),
  Hd.dA (fun K => He.ma K (He.ga K "Branch") "inner") "inner" "Group.inner" (inClass (top 42) 1),
  Hd.dA (fun K => He.ma K (He.ga K "Fixed") "size") "size" "Part.size" (inClass (top 38) 4),
  Hd.dA (fun K => He.ma K (He.ga K "Contact") "size") "size" "Part.size" (inClass (top 38) 4),
  Hd.dA (fun K => He.ma K (He.ga K "Turned") "size") "size" "Part.size" (inClass (top 38) 4),
  Hd.dA (fun K => He.ma K (He.ga K "Series") "size") "size" "Part.size" (inClass (top 38) 4)]
def defs1 : List He5.DefA := [Hd.dA (fun K => He.ma K (He.ga K "Branch") "size") "size" "Part.size" (inClass (top 38) 4),
  Hd.dA (fun K => He.ma K (He.ga K "Fixed") "depth") "depth" "Part.depth" (inClass (top 38) 5),
  Hd.dA (fun K => He.ma K (He.ga K "Contact") "depth") "depth" "Part.depth" (inClass (top 38) 5),
  Hd.dA (fun K => He.ma K (He.ga K "Turned") "depth") "depth" "Part.depth" (inClass (top 38) 5),
  Hd.dA (fun K => He.ma K (He.ga K "Series") "depth") "depth" "Part.depth" (inClass (top 38) 5),
  Hd.dA (fun K => He.ma K (He.ga K "Branch") "depth") "depth" "Part.depth" (inClass (top 38) 5),
  Hd.dA (fun K => He.ma K (He.ga K "Turned") "bounded") "bounded" "Part.bounded" (inClass (top 38) 8),
  Hd.dA (fun K => He.ma K (He.ga K "Series") "bounded") "bounded" "Part.bounded" (inClass (top 38) 8),
  Hd.dA (fun K => He.ma K (He.ga K "Branch") "bounded") "bounded" "Part.bounded" (inClass (top 38) 8),
  Hd.dA (fun K => He.ma K (He.ga K "Fixed") "__init__") "__init__" "Fixed.__init__" (inClass (top 39) 0),
  Hd.dA (fun K => He.ma K (He.ga K "Contact") "__init__") "__init__" "Contact.__init__" (inClass (top 40) 0),
  Hd.dA (fun K => He.ma K (He.ga K "Turned") "__init__") "__init__" "Turned.__init__" (inClass (top 41) 0),
  Hd.dA (fun K => He.ma K (He.ga K "Series") "__init__") "__init__" "Group.__init__" (inClass (top 42) 0),
  Hd.dA (fun K => He.ma K (He.ga K "Branch") "__init__") "__init__" "Group.__init__" (inClass (top 42) 0),
  Hd.dA (fun K => He.ga K "single") "single" "single" (top 46),
  Hd.dA (fun K => He.ga K "joined") "joined" "joined" (top 47),
  Hd.dA (fun K => He.ga K "part_of") "part_of" "part_of" (top 48),
  Hd.dA (fun K => He.ga K "_law_made") "_law_made" "_law_made" (top 59),
  Hd.dA (fun K => He.ga K "_law_new") "_law_new" "_law_new" (top 61),
  Hd.dA (fun K => He.ga K "_law_holds") "_law_holds" "_law_holds" (top 60),
  Hd.dA (fun K => He.ga K "_law_act") "_law_act" "_law_act" (top 62),
  Hd.dA (fun K => He.ga K "_law_scan") "_law_scan" "_law_scan" (top 63),
  Hd.dA (fun K => He.ma K (He.ga K "Works") "__init__") "__init__" "Works.__init__" (inClass (top 25) 0),
  Hd.dA (fun K => He.ma K (He.ga K "Works") "bit") "bit" "Works.bit" (inClass (top 25) 4),
  Hd.dA (fun K => He.ma K (He.ga K "Works") "count") "count" "Works.count" (inClass (top 25) 5),
  Hd.dA (fun K => He.ma K (He.ga K "Works") "image") "image" "Works.image" (inClass (top 25) 7),
  Hd.dA (fun K => He.ma K (He.ga K "Works") "answers") "answers" "Works.answers" (inClass (top 25) 6),
  Hd.dA (fun K => He.ga K "_law_truths") "_law_truths" "_law_truths" (top 65),
  Hd.dA (fun K => He.ga K "_law_whole") "_law_whole" "_law_whole" (top 50),
  Hd.dA (fun K => He.ga K "_law_no_count") "_law_no_count" "_law_no_count" (top 66),
  Hd.dA (fun K => He.ga K "_law_as_told") "_law_as_told" "_law_as_told" (top 67),
  Hd.dA (fun K => He.ma K (He.ga K "Works") "kept") "kept" "Works.kept" (inClass (top 25) 8),
  Hd.dA (fun K => He.ma K (He.ga K "Works") "put_back") "put_back" "Works.put_back" (inClass (top 25) 9),
  Hd.dA (fun K => He.ga K "_law_row") "_law_row" "_law_row" (top 64),
  Hd.dA (fun K => He.ma K (He.ga K "Fixed") "holds") "holds" "Fixed.holds" (inClass (top 39) 1),
  Hd.dA (fun K => He.ma K (He.ga K "Contact") "holds") "holds" "Contact.holds" (inClass (top 40) 1),
  Hd.dA (fun K => He.ma K (He.ga K "Turned") "holds") "holds" "Turned.holds" (inClass (top 41) 2),
  Hd.dA (fun K => He.ma K (He.ga K "Series") "holds") "holds" "Series.holds" (inClass (top 43) 0),
  Hd.dA (fun K => He.ma K (He.ga K "Branch") "holds") "holds" "Branch.holds" (inClass (top 44) 0),
  Hd.dA (fun K => He.ga K "need_row") "need_row" "need_row" (top 24),
  Hd.dA (fun K => He.ma K (He.ga K "Works") "act") "act" "Works.act" (inClass (top 25) 2),
  Hd.dA (fun K => He.ma K (He.ga K "Works") "count_on") "count_on" "Works.count_on" (inClass (top 25) 3),
  Hd.dA (fun K => He.ma K (He.ga K "Works") "scan") "scan" "Works.scan" (inClass (top 25) 1),
  Hd.dA (fun K => He.ga K "_law_copied") "_law_copied" "_law_copied" (top 68),
  Hd.dA (fun K => He.ga K "_law_kept_right") "_law_kept_right" "_law_kept_right" (top 69),
  Hd.dA (fun K => He.ga K "_law_refused") "_law_refused" "_law_refused" (top 70),
  Hd.dA (fun K => He.ga K "_law_look") "_law_look" "_law_look" (top 71),
  Hd.dA (fun K => He.ga K "_law_deed") "_law_deed" "_law_deed" (top 72)]
def defs : List He5.DefA := (defs0 ++ defs1)
def names0 : List PySem.Str := ["_wall", "LadderError", "NoName", "NoPart", "NoEnd", "NoLadder", "NoRow", "SIGNS", "MOST_SIGNS", "KEPT", "is_word", "is_name", "MOST_COUNT", "End", "Coil", "Latch"]
def names1 : List PySem.Str := ["Unlatch", "Counting", "Timer", "Counter", "need_row", "Works", "MOST_NAMES", "MOST_RUNGS", "MOST_WRITTEN", "Rung", "need_between", "need_single", "need_own", "Ladder", "MOST_SIZE", "MOST_DEEP"]
def names2 : List PySem.Str := ["Part", "Fixed", "Contact", "Turned", "Group", "Series", "Branch", "bracketed", "single", "joined", "part_of", "_law_whole", "_law_cell_at", "_law_mixed", "_law_word", "_law_names"]
def names3 : List PySem.Str := ["_law_told", "_law_end", "_law_rungs", "_law_drawn", "_law_made", "_law_holds", "_law_new", "_law_act", "_law_scan", "_law_row", "_law_truths", "_law_no_count", "_law_as_told", "_law_copied", "_law_kept_right", "_law_refused"]
def names4 : List PySem.Str := ["_law_look", "_law_deed"]
def names : List PySem.Str := names0 ++ names1 ++ names2 ++ names3 ++ names4
def addrs0 : List Nat := [nat_lit 3, nat_lit 6, nat_lit 4, nat_lit 21, nat_lit 31, nat_lit 44, nat_lit 56, nat_lit 68, nat_lit 80, nat_lit 92, nat_lit 95, nat_lit 102, nat_lit 109, nat_lit 147, nat_lit 161, nat_lit 180, nat_lit 199, nat_lit 225, nat_lit 244, nat_lit 263, nat_lit 272, nat_lit 350, nat_lit 371, nat_lit 382, nat_lit 389, nat_lit 396, nat_lit 418, nat_lit 491, nat_lit 533, nat_lit 580, nat_lit 627, nat_lit 677, nat_lit 701, nat_lit 732, nat_lit 741, nat_lit 748, nat_lit 755, nat_lit 762, nat_lit 769, nat_lit 776]
def addrs1 : List Nat := [nat_lit 783, nat_lit 790, nat_lit 795, nat_lit 800, nat_lit 807, nat_lit 814, nat_lit 821, nat_lit 828, nat_lit 833, nat_lit 840, nat_lit 847, nat_lit 854, nat_lit 859, nat_lit 866, nat_lit 873, nat_lit 878, nat_lit 885, nat_lit 892, nat_lit 899, nat_lit 904, nat_lit 911, nat_lit 916, nat_lit 0, nat_lit 20, nat_lit 30, nat_lit 43, nat_lit 55, nat_lit 67, nat_lit 79, nat_lit 91, nat_lit 101, nat_lit 108, nat_lit 146, nat_lit 160, nat_lit 179, nat_lit 198, nat_lit 224, nat_lit 243, nat_lit 262, nat_lit 271]
def addrs2 : List Nat := [nat_lit 349, nat_lit 370, nat_lit 381, nat_lit 388, nat_lit 395, nat_lit 417, nat_lit 490, nat_lit 532, nat_lit 579, nat_lit 626, nat_lit 676, nat_lit 700, nat_lit 731, nat_lit 740, nat_lit 747, nat_lit 754, nat_lit 761, nat_lit 768, nat_lit 775, nat_lit 782, nat_lit 789, nat_lit 794, nat_lit 799, nat_lit 806, nat_lit 813, nat_lit 820, nat_lit 827, nat_lit 832, nat_lit 839, nat_lit 846, nat_lit 853, nat_lit 858, nat_lit 865, nat_lit 872, nat_lit 877, nat_lit 884, nat_lit 891, nat_lit 898, nat_lit 903, nat_lit 910]
def addrs3 : List Nat := [nat_lit 915, nat_lit 15, nat_lit 16, nat_lit 17, nat_lit 18, nat_lit 19, nat_lit 29, nat_lit 32, nat_lit 42, nat_lit 54, nat_lit 66, nat_lit 78, nat_lit 90, nat_lit 96, nat_lit 97, nat_lit 98, nat_lit 99, nat_lit 100, nat_lit 103, nat_lit 104, nat_lit 105, nat_lit 106, nat_lit 107, nat_lit 123, nat_lit 130, nat_lit 137, nat_lit 144, nat_lit 145, nat_lit 148, nat_lit 149, nat_lit 159, nat_lit 177, nat_lit 178, nat_lit 196, nat_lit 197, nat_lit 215, nat_lit 222, nat_lit 223, nat_lit 241, nat_lit 242]
def addrs4 : List Nat := [nat_lit 260, nat_lit 261, nat_lit 266, nat_lit 267, nat_lit 268, nat_lit 269, nat_lit 270, nat_lit 286, nat_lit 293, nat_lit 300, nat_lit 307, nat_lit 314, nat_lit 321, nat_lit 326, nat_lit 333, nat_lit 340, nat_lit 347, nat_lit 348, nat_lit 351, nat_lit 352, nat_lit 368, nat_lit 369, nat_lit 372, nat_lit 373, nat_lit 376, nat_lit 377, nat_lit 378, nat_lit 379, nat_lit 380, nat_lit 383, nat_lit 384, nat_lit 385, nat_lit 386, nat_lit 387, nat_lit 390, nat_lit 391, nat_lit 392, nat_lit 393, nat_lit 394, nat_lit 408]
def addrs5 : List Nat := [nat_lit 415, nat_lit 416, nat_lit 419, nat_lit 420, nat_lit 436, nat_lit 443, nat_lit 450, nat_lit 457, nat_lit 462, nat_lit 467, nat_lit 474, nat_lit 481, nat_lit 488, nat_lit 489, nat_lit 492, nat_lit 493, nat_lit 509, nat_lit 516, nat_lit 523, nat_lit 530, nat_lit 531, nat_lit 549, nat_lit 556, nat_lit 563, nat_lit 570, nat_lit 577, nat_lit 578, nat_lit 596, nat_lit 603, nat_lit 610, nat_lit 617, nat_lit 624, nat_lit 625, nat_lit 643, nat_lit 650, nat_lit 657, nat_lit 664, nat_lit 669, nat_lit 674, nat_lit 675]
def addrs6 : List Nat := [nat_lit 691, nat_lit 698, nat_lit 699, nat_lit 715, nat_lit 722, nat_lit 729, nat_lit 730, nat_lit 735, nat_lit 736, nat_lit 737, nat_lit 738, nat_lit 739, nat_lit 742, nat_lit 743, nat_lit 744, nat_lit 745, nat_lit 746, nat_lit 749, nat_lit 750, nat_lit 751, nat_lit 752, nat_lit 753, nat_lit 756, nat_lit 757, nat_lit 758, nat_lit 759, nat_lit 760, nat_lit 763, nat_lit 764, nat_lit 765, nat_lit 766, nat_lit 767, nat_lit 770, nat_lit 771, nat_lit 772, nat_lit 773, nat_lit 774, nat_lit 777, nat_lit 778, nat_lit 779]
def addrs7 : List Nat := [nat_lit 780, nat_lit 781, nat_lit 784, nat_lit 785, nat_lit 786, nat_lit 787, nat_lit 788, nat_lit 791, nat_lit 792, nat_lit 793, nat_lit 796, nat_lit 797, nat_lit 798, nat_lit 801, nat_lit 802, nat_lit 803, nat_lit 804, nat_lit 805, nat_lit 808, nat_lit 809, nat_lit 810, nat_lit 811, nat_lit 812, nat_lit 815, nat_lit 816, nat_lit 817, nat_lit 818, nat_lit 819, nat_lit 822, nat_lit 823, nat_lit 824, nat_lit 825, nat_lit 826, nat_lit 829, nat_lit 830, nat_lit 831, nat_lit 834, nat_lit 835, nat_lit 836, nat_lit 837]
def addrs8 : List Nat := [nat_lit 838, nat_lit 841, nat_lit 842, nat_lit 843, nat_lit 844, nat_lit 845, nat_lit 848, nat_lit 849, nat_lit 850, nat_lit 851, nat_lit 852, nat_lit 855, nat_lit 856, nat_lit 857, nat_lit 860, nat_lit 861, nat_lit 862, nat_lit 863, nat_lit 864, nat_lit 867, nat_lit 868, nat_lit 869, nat_lit 870, nat_lit 871, nat_lit 874, nat_lit 875, nat_lit 876, nat_lit 879, nat_lit 880, nat_lit 881, nat_lit 882, nat_lit 883, nat_lit 886, nat_lit 887, nat_lit 888, nat_lit 889, nat_lit 890, nat_lit 893, nat_lit 894, nat_lit 895]
def addrs9 : List Nat := [nat_lit 896, nat_lit 897, nat_lit 900, nat_lit 901, nat_lit 902, nat_lit 905, nat_lit 906, nat_lit 907, nat_lit 908, nat_lit 909, nat_lit 912, nat_lit 913, nat_lit 914, nat_lit 122, nat_lit 129, nat_lit 136, nat_lit 143, nat_lit 176, nat_lit 195, nat_lit 214, nat_lit 221, nat_lit 240, nat_lit 259, nat_lit 285, nat_lit 292, nat_lit 299, nat_lit 306, nat_lit 313, nat_lit 320, nat_lit 325, nat_lit 332, nat_lit 339, nat_lit 346, nat_lit 367, nat_lit 407, nat_lit 414, nat_lit 435, nat_lit 442, nat_lit 449, nat_lit 456]
def addrs10 : List Nat := [nat_lit 461, nat_lit 466, nat_lit 473, nat_lit 480, nat_lit 487, nat_lit 508, nat_lit 515, nat_lit 522, nat_lit 529, nat_lit 548, nat_lit 555, nat_lit 562, nat_lit 569, nat_lit 576, nat_lit 595, nat_lit 602, nat_lit 609, nat_lit 616, nat_lit 623, nat_lit 642, nat_lit 649, nat_lit 656, nat_lit 663, nat_lit 668, nat_lit 673, nat_lit 690, nat_lit 697, nat_lit 714, nat_lit 721, nat_lit 728, nat_lit 117, nat_lit 118, nat_lit 119, nat_lit 120, nat_lit 121, nat_lit 124, nat_lit 125, nat_lit 126, nat_lit 127, nat_lit 128]
def addrs11 : List Nat := [nat_lit 131, nat_lit 132, nat_lit 133, nat_lit 134, nat_lit 135, nat_lit 138, nat_lit 139, nat_lit 140, nat_lit 141, nat_lit 142, nat_lit 171, nat_lit 172, nat_lit 173, nat_lit 174, nat_lit 175, nat_lit 190, nat_lit 191, nat_lit 192, nat_lit 193, nat_lit 194, nat_lit 209, nat_lit 210, nat_lit 211, nat_lit 212, nat_lit 213, nat_lit 216, nat_lit 217, nat_lit 218, nat_lit 219, nat_lit 220, nat_lit 235, nat_lit 236, nat_lit 237, nat_lit 238, nat_lit 239, nat_lit 254, nat_lit 255, nat_lit 256, nat_lit 257, nat_lit 258]
def addrs12 : List Nat := [nat_lit 280, nat_lit 281, nat_lit 282, nat_lit 283, nat_lit 284, nat_lit 287, nat_lit 288, nat_lit 289, nat_lit 290, nat_lit 291, nat_lit 294, nat_lit 295, nat_lit 296, nat_lit 297, nat_lit 298, nat_lit 301, nat_lit 302, nat_lit 303, nat_lit 304, nat_lit 305, nat_lit 308, nat_lit 309, nat_lit 310, nat_lit 311, nat_lit 312, nat_lit 315, nat_lit 316, nat_lit 317, nat_lit 318, nat_lit 319, nat_lit 322, nat_lit 323, nat_lit 324, nat_lit 327, nat_lit 328, nat_lit 329, nat_lit 330, nat_lit 331, nat_lit 334, nat_lit 335]
def addrs13 : List Nat := [nat_lit 336, nat_lit 337, nat_lit 338, nat_lit 341, nat_lit 342, nat_lit 343, nat_lit 344, nat_lit 345, nat_lit 362, nat_lit 363, nat_lit 364, nat_lit 365, nat_lit 366, nat_lit 404, nat_lit 405, nat_lit 406, nat_lit 409, nat_lit 410, nat_lit 411, nat_lit 412, nat_lit 413, nat_lit 430, nat_lit 431, nat_lit 432, nat_lit 433, nat_lit 434, nat_lit 437, nat_lit 438, nat_lit 439, nat_lit 440, nat_lit 441, nat_lit 444, nat_lit 445, nat_lit 446, nat_lit 447, nat_lit 448, nat_lit 451, nat_lit 452, nat_lit 453, nat_lit 454]
def addrs14 : List Nat := [nat_lit 455, nat_lit 458, nat_lit 459, nat_lit 460, nat_lit 463, nat_lit 464, nat_lit 465, nat_lit 468, nat_lit 469, nat_lit 470, nat_lit 471, nat_lit 472, nat_lit 475, nat_lit 476, nat_lit 477, nat_lit 478, nat_lit 479, nat_lit 482, nat_lit 483, nat_lit 484, nat_lit 485, nat_lit 486, nat_lit 503, nat_lit 504, nat_lit 505, nat_lit 506, nat_lit 507, nat_lit 510, nat_lit 511, nat_lit 512, nat_lit 513, nat_lit 514, nat_lit 517, nat_lit 518, nat_lit 519, nat_lit 520, nat_lit 521, nat_lit 524, nat_lit 525, nat_lit 526]
def addrs15 : List Nat := [nat_lit 527, nat_lit 528, nat_lit 543, nat_lit 544, nat_lit 545, nat_lit 546, nat_lit 547, nat_lit 550, nat_lit 551, nat_lit 552, nat_lit 553, nat_lit 554, nat_lit 557, nat_lit 558, nat_lit 559, nat_lit 560, nat_lit 561, nat_lit 564, nat_lit 565, nat_lit 566, nat_lit 567, nat_lit 568, nat_lit 571, nat_lit 572, nat_lit 573, nat_lit 574, nat_lit 575, nat_lit 590, nat_lit 591, nat_lit 592, nat_lit 593, nat_lit 594, nat_lit 597, nat_lit 598, nat_lit 599, nat_lit 600, nat_lit 601, nat_lit 604, nat_lit 605, nat_lit 606]
def addrs16 : List Nat := [nat_lit 607, nat_lit 608, nat_lit 611, nat_lit 612, nat_lit 613, nat_lit 614, nat_lit 615, nat_lit 618, nat_lit 619, nat_lit 620, nat_lit 621, nat_lit 622, nat_lit 637, nat_lit 638, nat_lit 639, nat_lit 640, nat_lit 641, nat_lit 644, nat_lit 645, nat_lit 646, nat_lit 647, nat_lit 648, nat_lit 651, nat_lit 652, nat_lit 653, nat_lit 654, nat_lit 655, nat_lit 658, nat_lit 659, nat_lit 660, nat_lit 661, nat_lit 662, nat_lit 665, nat_lit 666, nat_lit 667, nat_lit 670, nat_lit 671, nat_lit 672, nat_lit 687, nat_lit 688]
def addrs17 : List Nat := [nat_lit 689, nat_lit 692, nat_lit 693, nat_lit 694, nat_lit 695, nat_lit 696, nat_lit 711, nat_lit 712, nat_lit 713, nat_lit 716, nat_lit 717, nat_lit 718, nat_lit 719, nat_lit 720, nat_lit 723, nat_lit 724, nat_lit 725, nat_lit 726, nat_lit 727, nat_lit 2]
/-- the objects that the module's names reach -/
def addrs : List Nat := addrs0 ++ addrs1 ++ addrs2 ++ addrs3 ++ addrs4 ++ addrs5 ++ addrs6 ++ addrs7 ++ addrs8 ++ addrs9 ++ addrs10 ++ addrs11 ++ addrs12 ++ addrs13 ++ addrs14 ++ addrs15 ++ addrs16 ++ addrs17
abbrev hk : PySem.W.Hook := Hd.hook addrs facts defs
def ob (s : PySem.W.SharedT) : He.AlD := Hd.seenG addrs facts defs (HandSHeadRun.getT s)
theorem ob_eq (s : PySem.W.SharedT) : ob s = hk.obs s.abs := Hd.seenG_eq (HandSHeadRun.getT_eq s)
abbrev row : PySem.W.OpenRow := PySem.W.OpenLaw.row PySem.Challenge.rw_rungworks_k24_whole_plain_reading
set_option maxHeartbeats 0 in
theorem run_looks (w : World) : HandSHeadRun.RunEq row (PySem.W.view row.prog [73]) PySem.W.Hook.none (fun _ => ()) 9000 names w := by
  intro os
  kernel_rfl
set_option maxHeartbeats 0 in
theorem run_0 (w : World) : Hd.Part row 9000 addrs facts0 defs0 w := by
  intro os
  kernel_rfl
set_option maxHeartbeats 0 in
theorem run_1 (w : World) : Hd.Part row 9000 addrs facts1 defs1 w := by
  intro os
  kernel_rfl
theorem run (w : World) : HandSHeadRun.RunEq row (PySem.W.view row.prog [73]) hk ob 9000 names w :=
  Hd.run_of (run_looks w) (Hd.Part.app (run_0 w) (run_1 w))
end Hh
end

set_option Elab.async false
set_option linter.all false
set_option maxRecDepth 100000
set_option maxHeartbeats 2000000
namespace Ru
open PySem PySem.Spec PyProof.Rows L2

/-! ## a def of the module as a caller sees it -/
/-- the def called x is the module's, with body st -/
structure DefAt (K : PySem.W.Frag) (mg : Str → Option Value) (x : Str) (st : Stmt) (ps : List Str) : Prop where
  ex : ∃ f fd, mg x = some (.ref f) ∧ Fun K x x st f fd ∧ Binds K fd ps []
/-- the def called x keeps the promise sp -/
structure FnAt (P : Program) (w : World) (K : PySem.W.Frag) (mg : Str → Option Value) (base : Heap) (cx : CXT) (x : Str) (k : Nat) (ps : List Str) (sp : Sp) : Prop where
  ex : ∃ f fd, mg x = some (.ref f) ∧ PySem.W.keepIn K (.ref f) = true ∧ Binds K fd ps [] ∧ FnOk P w K mg base cx k f fd ps sp
theorem FnAt.mono {P : Program} {w : World} {K : PySem.W.Frag} {mg : Str → Option Value} {base : Heap} {cx : CXT} {x : Str} {j k : Nat} {ps : List Str} {sp : Sp} (F : FnAt P w K mg base cx x j ps sp) (h : j ≤ k) : FnAt P w K mg base cx x k ps sp := by
  obtain ⟨f, fd, h1, h2, h3, h4⟩ := F.ex
  exact ⟨f, fd, h1, h2, h3, h4.mono h⟩
theorem FnAt.imp {P : Program} {w : World} {K : PySem.W.Frag} {mg : Str → Option Value} {base : Heap} {cx : CXT} {x : Str} {k : Nat} {ps : List Str} {sp sp' : Sp} (F : FnAt P w K mg base cx x k ps sp) (h : ∀ vs H Q E, sp' vs H Q E → sp vs H Q E) : FnAt P w K mg base cx x k ps sp' := by
  obtain ⟨f, fd, h1, h2, h3, h4⟩ := F.ex
  exact ⟨f, fd, h1, h2, h3, h4.imp h⟩
section
variable {P : Program} {w : World} {K : PySem.W.Frag} {mg : Str → Option Value} {base : Heap}
theorem fnAt_ok {x : Str} {st : Stmt} {N ps : List Str} {k : Nat} {sp : Sp} (D : DefAt K mg x st ps) (S : FnScope N ps (defScope st)) (len : ∀ vs H Q E, sp vs H Q E → vs.length = ps.length)
    (hbody : ∀ (f : Addr) (cdv : Value) (A : Around) (outer : List Env) (s : Shared) (H : Hp) (vs : List V) (Q : VK) (E : XK), Room k (A.deeper (envOfC x (defScope st) s.heap.objs.size f cdv)) → sp vs H Q E →
      ∃ t, PSs (cxOf CX0 P w K mg base N x (defScope st) f cdv A outer s H E).nox (defBody st) t ∧ t { nx := fun _ H' => Q .non H', rt := Q } (start N vs) H) : FnAt P w K mg base CX0 x (k + 1) ps sp := by
  obtain ⟨f, fd, h1, h2, h3⟩ := D.ex
  exact ⟨f, fd, h1, h2.kp, h3, h2.ok S len (hbody f)⟩
theorem defAt_mk {h : Heap} {x : Str} {st : Stmt} {ps : List Str} {f : Addr} {oc : Value} {od an : Option Addr} {osl : Array (Option Value)} {kV doc pm cdv ct : Value} (X : K.In h) (G : h.Ns mainGlobals mg)
    (a : PySem.W.nsIn K mainGlobals x = some (some (.ref f))) (l : K.lookup f = some ⟨oc, od, .func (PySem.W.fnOf x x (defArgs st) (defBody st) (defScope st) .none kV doc pm an cdv ct), osl⟩)
    (c : PySem.W.codeIn K cdv x = true) (k : PySem.W.keepIn K (.ref f) = true)
    (b : ∀ us : List Value, us.length = ps.length → bindArgs (PySem.W.fnOf x x (defArgs st) (defBody st) (defScope st) .none kV doc pm an cdv ct) ⟨us, []⟩ = pure (ps.zip us)) : DefAt K mg x st ps :=
  ⟨f, _, PySem.W.mg_of X G a, fun_mk l c k, .all b⟩
end
section
variable {X : Cx} {cx : CXT} {j k : Nat} {ps : List Str} {sp : Sp} {E : XK} {x : Str} {p pos : Pos} {e : Expr} {es : List Expr} {t : TA}
theorem pe_callF (F : FnAt X.prog X.w X.K X.mg X.base cx x k ps sp) (hr : Room j X.A) (hx : Passes cx X E) (ha : PA X (e :: es) t) (hj : k ≤ j := by decide) (hg : Gl X x := by rfl)
    (hdb : (x == ("__debug__" : Str)) = false := by decide) (he : starEach (e :: es) X.env = (false, eval e X.env) :: starEach es X.env := by rfl) (hpl : (backTo pos (starEach es X.env)).any (·.1) = false := by rfl) :
    PE X (.Call (.Name x p) (e :: es) [] pos) (tCall sp [] E t) := by
  obtain ⟨f, fd, h1, h2, h3, h4⟩ := F.ex
  exact pe_call h4 (hr.mono hj) hg h1 h2 h3 .nil hx ha hdb he hpl
theorem pe_callF0 (F : FnAt X.prog X.w X.K X.mg X.base cx x k ps sp) (hr : Room j X.A) (hx : Passes cx X E) (hj : k ≤ j := by decide) (hg : Gl X x := by rfl)
    (hdb : (x == ("__debug__" : Str)) = false := by decide) : PE X (.Call (.Name x p) [] [] pos) (tCall sp [] E tNil) := by
  obtain ⟨f, fd, h1, h2, h3, h4⟩ := F.ex
  exact pe_call0 h4 (hr.mono hj) hg h1 h2 h3 .nil hx hdb
end

/-! ## constants of the module -/
/-- the module's name x holds the value v -/
def GlobC (mg : Str → Option Value) (x : Str) (v : V) : Prop := ∃ u, mg x = some u ∧ RelV v u
theorem pe_gc {X : Cx} {x : Str} {v : V} {pos : Pos} (h : GlobC X.mg x v) (hg : Gl X x := by rfl) (hd : (x == ("__debug__" : Str)) = false := by decide) : PE X (.Name x pos) (tC v) := by
  obtain ⟨u, h1, h2⟩ := h
  exact pe_glob hg h1 h2 hd
/-- a tuple that stands wherever one looks -/
def TupK (K : PySem.W.Frag) (a : Addr) (xs : List V) : Prop := ∀ H, SqT K H a xs
def GlobT (K : PySem.W.Frag) (mg : Str → Option Value) (x : Str) (xs : List V) : Prop := ∃ a, mg x = some (.ref a) ∧ TupK K a xs
def tGT (K : PySem.W.Frag) (xs : List V) : TE := fun _ H Q => ∀ a, TupK K a xs → Q (.ref a) H
theorem pe_gt {X : Cx} {x : Str} {xs : List V} {pos : Pos} (h : GlobT X.K X.mg x xs) (hg : Gl X x := by rfl) (hd : (x == ("__debug__" : Str)) = false := by decide) : PE X (.Name x pos) (tGT X.K xs) := by
  obtain ⟨a, h1, h2⟩ := h
  exact ⟨fun pins s σ H Q I q => (pe_glob (v := .ref a) hg h1 rfl hd).run pins s σ H Q I (q a h2)⟩
/-- what a written tuple's items are -/
def valsB : List V → List Value → Bool
  | [], [] => true
  | x :: xs, u :: us => (absV u == some x) && valsB xs us
  | _, _ => false
theorem relV_of_abs {x : V} {u : Value} (h : absV u = some x) : RelV x u := by
  cases u <;> simp [absV] at h <;> subst h <;> first | rfl | exact ⟨_, rfl⟩
theorem vals_of_B : ∀ {xs : List V} {us : List Value}, valsB xs us = true → Vals xs us
  | [], [], _ => .nil
  | x :: xs, u :: us, h => by
    unfold valsB at h
    rw [Bool.and_eq_true] at h
    exact .cons (relV_of_abs (by simpa using h.1)) (vals_of_B h.2)
  | [], _ :: _, h => by simp [valsB] at h
  | _ :: _, [], h => by simp [valsB] at h
theorem globT_mk {K : PySem.W.Frag} {mg : Str → Option Value} {h : Heap} {x : Str} {a : Addr} {n : Nat} {its : Array Value} {od : Option Addr} {sl : Array (Option Value)} {xs : List V} (X : K.In h) (G : h.Ns mainGlobals mg)
    (ha : PySem.W.nsIn K mainGlobals x = some (some (.ref a))) (l : K.lookup a = some ⟨.type "tuple", od, .seq its n, sl⟩) (hs : its.size ≤ sizeLine) (hv : Vals xs its.toList) : GlobT K mg x xs :=
  ⟨a, PySem.W.mg_of X G ha, fun _ => .inr ⟨_, its, n, l, rfl, rfl, hs, hv⟩⟩
theorem globC_mk {K : PySem.W.Frag} {mg : Str → Option Value} {h : Heap} {x : Str} {u : Value} {v : V} (X : K.In h) (G : h.Ns mainGlobals mg) (ha : PySem.W.nsIn K mainGlobals x = some (some u)) (r : RelV v u) : GlobC mg x v :=
  ⟨u, PySem.W.mg_of X G ha, r⟩

theorem pc_inK {X : Cx} {x : Str} {xs : List V} {a : Expr} {ta : TE} {pos : Pos} (h : GlobT X.K X.mg x xs) (ha : PE X a ta) (hg : Gl X x := by rfl) (hd : (x == ("__debug__" : Str)) = false := by decide) :
    PC X .In a (.Name x pos) (fun σ H Q => ta σ H fun v H1 => flatV v = true ∧ xs.all flatV = true ∧ Q (.bl (inV v xs)) H1) := by
  obtain ⟨b, h1, h2⟩ := h
  refine ⟨fun pins s σ H Q I q => ?_⟩
  refine bin (R := fun v u H2 => u = .ref b ∧ flatV v = true ∧ xs.all flatV = true ∧ Q (.bl (inV v xs)) H2) ha (pe_glob (v := .ref b) hg h1 rfl hd) I ?_ fun v u s2 x y H2 I2 rx ry q => ?_
  · refine (show ta σ H fun v H1 => (V.ref b = .ref b ∧ flatV v = true ∧ xs.all flatV = true ∧ Q (.bl (inV v xs)) H1) from ?_)
    have : (fun v H1 => flatV v = true ∧ xs.all flatV = true ∧ Q (.bl (inV v xs)) H1) = (fun (v : V) (H1 : Hp) => (V.ref b = .ref b ∧ flatV v = true ∧ xs.all flatV = true ∧ Q (.bl (inV v xs)) H1)) := by
      funext v H1
      simp
    rw [← this]
    exact q
  · obtain ⟨rfl, q1, q2, q3⟩ := q
    exact op_in_seq pins s2 σ H2 _ _ _ _ Q I2 rx ry ⟨b, xs, rfl, .inr (h2 H2), q1, q2, q3⟩
theorem pc_notInK {X : Cx} {x : Str} {xs : List V} {a : Expr} {ta : TE} {pos : Pos} (h : GlobT X.K X.mg x xs) (ha : PE X a ta) (hg : Gl X x := by rfl) (hd : (x == ("__debug__" : Str)) = false := by decide) :
    PC X .NotIn a (.Name x pos) (fun σ H Q => ta σ H fun v H1 => flatV v = true ∧ xs.all flatV = true ∧ Q (.bl (!inV v xs)) H1) := by
  obtain ⟨b, h1, h2⟩ := h
  refine ⟨fun pins s σ H Q I q => ?_⟩
  refine bin (R := fun v u H2 => u = .ref b ∧ flatV v = true ∧ xs.all flatV = true ∧ Q (.bl (!inV v xs)) H2) ha (pe_glob (v := .ref b) hg h1 rfl hd) I ?_ fun v u s2 x y H2 I2 rx ry q => ?_
  · refine (show ta σ H fun v H1 => (V.ref b = .ref b ∧ flatV v = true ∧ xs.all flatV = true ∧ Q (.bl (!inV v xs)) H1) from ?_)
    have : (fun v H1 => flatV v = true ∧ xs.all flatV = true ∧ Q (.bl (!inV v xs)) H1) = (fun (v : V) (H1 : Hp) => (V.ref b = .ref b ∧ flatV v = true ∧ xs.all flatV = true ∧ Q (.bl (!inV v xs)) H1)) := by
      funext v H1
      simp
    rw [← this]
    exact q
  · obtain ⟨rfl, q1, q2, q3⟩ := q
    exact op_notIn_seq pins s2 σ H2 _ _ _ _ Q I2 rx ry ⟨b, xs, rfl, .inr (h2 H2), q1, q2, q3⟩

/-! ## texts as lists of code points -/
def mkS (l : List Nat) : Str := ⟨l.toArray⟩
theorem mkS_len (l : List Nat) : (mkS l).length = l.length := by simp [mkS, Str.length]
theorem mkS_tl (z : Str) : mkS z.cps.toList = z := by simp [mkS]
theorem tl_mkS (l : List Nat) : (mkS l).cps.toList = l := by simp [mkS]
theorem mkS_inj {a b : List Nat} (h : mkS a = mkS b) : a = b := by rw [← tl_mkS a, ← tl_mkS b, h]
theorem mkS_app (a b : List Nat) : mkS a ++ mkS b = mkS (a ++ b) := by
  show Str.append _ _ = _
  simp [Str.append, mkS]
theorem empty_mk : ("" : Str) = mkS [] := by decide +kernel
theorem mkS_one (c : Nat) : (⟨#[c]⟩ : Str) = mkS [c] := rfl
theorem cutS_to (l : List Nat) (n : Nat) : cutS (mkS l) none (some (n : Int)) = mkS (l.take n) := by
  unfold cutS
  rw [HT.sIx_none, HT.sIx_nat, mkS_len, tl_mkS]
  show mkS _ = _
  congr 1
  rw [List.drop_zero, Nat.sub_zero]
  by_cases h : n ≤ l.length
  · rw [Nat.min_eq_left h]
  · rw [Nat.min_eq_right (by omega), List.take_of_length_le (Nat.le_refl _), List.take_of_length_le (by omega)]
theorem cutS_from (l : List Nat) (n : Nat) : cutS (mkS l) (some (n : Int)) none = mkS (l.drop n) := by
  unfold cutS
  rw [HT.sIx_none, HT.sIx_nat, mkS_len, tl_mkS]
  show mkS _ = _
  congr 1
  by_cases h : n ≤ l.length
  · rw [Nat.min_eq_left h, List.take_of_length_le (by rw [List.length_drop]; omega)]
  · rw [Nat.min_eq_right (by omega), List.drop_of_length_le (Nat.le_refl _), List.drop_of_length_le (by omega)]
    simp
theorem cutS_le (z : Str) (lo hi : Option Int) : (cutS z lo hi).length ≤ z.length := by
  unfold cutS Str.length
  simp only [List.size_toArray, List.length_take, List.length_drop, Array.length_toList]
  omega
theorem len_app (x y : Str) : (x ++ y).length = x.length + y.length := strLen_append x y
/-- the item at an int's place -/
theorem atI_int {α : Type} {xs : List α} {i : Int} {v : α} (h0 : 0 ≤ i) (h : xs[i.toNat]? = some v) : atI xs i = some v := by
  obtain ⟨n, rfl⟩ := Int.eq_ofNat_of_zero_le h0
  exact atI_nat h

theorem atI_ex {α : Type} {xs : List α} {i : Int} (h0 : 0 ≤ i) (h : i < xs.length) : ∃ v, v ∈ xs ∧ atI xs i = some v := by
  have hn : i.toNat < xs.length := by omega
  exact ⟨xs[i.toNat], List.getElem_mem hn, atI_int h0 (List.getElem?_eq_getElem hn)⟩
theorem line_ge {n : Nat} (h : n ≤ 1000000) : n ≤ sizeLine := by rw [sizeLine_eq]; omega
/-- the law's def, and how its one argument binds -/
structure LawAt (K : PySem.W.Frag) (mg : Str → Option Value) (st : Stmt) (p : Str) : Prop where
  ex : ∃ f fd, mg "law" = some (.ref f) ∧ Fun K "law" "law" st f fd ∧ ∀ u : Value, bindArgs fd ⟨[u], []⟩ = pure [(p, u)]
theorem lawAt_mk {K : PySem.W.Frag} {mg : Str → Option Value} {h : Heap} {st : Stmt} {p : Str} {f : Addr} {oc : Value} {od an : Option Addr} {osl : Array (Option Value)} {kV doc pm cdv ct : Value} (X : K.In h) (G : h.Ns mainGlobals mg)
    (a : PySem.W.nsIn K mainGlobals "law" = some (some (.ref f))) (l : K.lookup f = some ⟨oc, od, .func (PySem.W.fnOf "law" "law" (defArgs st) (defBody st) (defScope st) .none kV doc pm an cdv ct), osl⟩)
    (c : PySem.W.codeIn K cdv "law" = true) (k : PySem.W.keepIn K (.ref f) = true)
    (b : ∀ u : Value, bindArgs (PySem.W.fnOf "law" "law" (defArgs st) (defBody st) (defScope st) .none kV doc pm an cdv ct) ⟨[u], []⟩ = pure [(p, u)]) : LawAt K mg st p :=
  ⟨f, _, PySem.W.mg_of X G a, fun_mk l c k, b⟩
theorem law_end {prog : Program} {w : World} {K : PySem.W.Frag} {mg : Str → Option Value} {st : Stmt} {p : Str} {fa : Addr} {cx : CXT} {k : Nat} {sp : Sp} (L : LawAt K mg st p) (hfa : mg "law" = some (.ref fa))
    (ok : ∀ (base : Heap) (f : Addr) (fd : FuncData), Fun K "law" "law" st f fd → FnOk prog w K mg base cx k f fd [p] sp) :
    ∃ fd : FuncData, (∀ (s : Shared) (u : Value), BindsTo s fd ⟨[u], []⟩ [(p, u)]) ∧ ∀ base : Heap, K.In base → base.Ns mainGlobals mg → FnOk prog w K mg base cx k fa fd [p] sp := by
  obtain ⟨f, fd, h1, h2, h3⟩ := L.ex
  have e : f = fa := by
    have := h1.symm.trans hfa
    injection this with e
    injection e
  subst e
  exact ⟨fd, fun s u => .of_eq (h3 u), fun base _ _ => ok base f fd h2⟩
/-- what is promised of a law: True, whatever stands -/
def spLaw (K : PySem.W.Frag) : Sp := fun vs H Q _ => ∃ (a : Addr) (ns : List Int), vs = [.ref a] ∧ SqL K H a (ns.map V.int) ∧ ns.length ≤ 63 ∧ ∀ H', Q (.bl true) H'
theorem law_walk {l : PySem.W.OpenLaw} {q : Program} {loose : List Str} {XP : (Str → Option Value) → Heap → Prop} {YP : World → Heap → Prop} {d : DefRec} {K : Params → PySem.W.Frag} {cx : CXT} {k : Nat} {p : Str} (hr : Room k callerA) (hn : l.most = some 63) (hdf : d.params.defaults = [])
    (hY : ∀ (w : World) (h : Heap), YP w h → (K w.params).In h) (hcx : ∀ (H : Hp) (s : Shared) (e : Value) (s' : Shared), cx [] H s (fun _ _ _ => False) e s' → False)
    (F : ∀ (w : World) (mg : Str → Option Value) (fa : Addr) (h : Heap), (K w.params).In h → h.Ns mainGlobals mg → mg d.name = some (.ref fa) →
      ∃ fd : FuncData, (∀ (s : Shared) (u : Value), BindsTo s fd ⟨[u], []⟩ [(p, u)]) ∧ ∀ base : Heap, (K w.params).In base → base.Ns mainGlobals mg → FnOk l.prog w (K w.params) mg base cx k fa fd [p] (spLaw (K w.params))) :
    PySem.W.WalkO q loose XP YP l.row.toRowW d [] (fun f vs => PySem.call f vs) :=
  L2.walk_of (n := 63) (k := k) (x := p) (CX := fun _ => cx) (sp := fun w => spLaw (K w.params)) hn (by decide) hdf hr hY F (fun _ _ a ns hl _ hS => ⟨a, ns, rfl, hS, hl, fun _ => rfl⟩) fun _ H s e s' z => hcx H s e s' z

/-! ## isinstance of flat values and bool, int, str -/
def isBlV : V → Bool
  | .bl _ => true
  | _ => false
def isIntV : V → Bool
  | .bl _ => true
  | .int _ => true
  | _ => false
def isStrV : V → Bool
  | .str _ => true
  | _ => false
theorem scal_ii {a b : Int} : scal (.int a) (.int b) = true := rfl
theorem scal_bb {a b : Bool} : scal (.bl a) (.bl b) = true := rfl
theorem scal_ss {a b : Str} : scal (.str a) (.str b) = true := rfl
theorem scal_sb {a : Str} {b : Bool} : scal (.str a) (.bl b) = true := rfl
theorem scal_bs {a : Str} {b : Bool} : scal (.bl b) (.str a) = true := rfl
theorem flat_s {z : Str} : flatV (.str z) = true := rfl
theorem flat_i {z : Int} : flatV (.int z) = true := rfl
theorem flat_b {z : Bool} : flatV (.bl z) = true := rfl
theorem flat_n : flatV .non = true := rfl
def rIsF (n : String) (f : V → Bool) : List V → Hp → VK → Prop := fun xs H Q => ∃ x, xs = [x, .ty n] ∧ flatV x = true ∧ Q (.bl (f x)) H
theorem call_isF {X : Cx} {n : String} {f : V → Bool} (hn : kitB "NoneType" n = some (f .non)) (hb : ∀ b, kitB "bool" n = some (f (.bl b))) (hi : ∀ i, kitB "int" n = some (f (.int i))) (hs : ∀ z, kitB "str" n = some (f (.str z))) :
    CallR X (.builtin "isinstance") (rIsF n f) := by
  intro pins s σ H xs us Q I r h
  obtain ⟨x, rfl, fx, q⟩ := h
  refine call_isi pins s σ H _ us Q I r ?_
  cases x with
  | non => exact ⟨_, _, _, _, _, rfl, .ty n, .base (.non), kit_ty hn, q⟩
  | bl b => exact ⟨_, _, _, _, _, rfl, .ty n, .base (.bl b), kit_ty (hb b), q⟩
  | int i => exact ⟨_, _, _, _, _, rfl, .ty n, .base (.int i), kit_ty (hi i), q⟩
  | str z => exact ⟨_, _, _, _, _, rfl, .ty n, .base (.str z), kit_ty (hs z), q⟩
  | byt b => cases fx
  | flt b => cases fx
  | ref a => cases fx
  | ty a => cases fx
theorem call_isBool {X : Cx} : CallR X (.builtin "isinstance") (rIsF "bool" isBlV) :=
  call_isF (by decide +kernel) (fun _ => (by decide +kernel : kitB "bool" "bool" = some true)) (fun _ => (by decide +kernel : kitB "int" "bool" = some false)) fun _ => (by decide +kernel : kitB "str" "bool" = some false)
theorem call_isInt {X : Cx} : CallR X (.builtin "isinstance") (rIsF "int" isIntV) :=
  call_isF (by decide +kernel) (fun _ => (by decide +kernel : kitB "bool" "int" = some true)) (fun _ => (by decide +kernel : kitB "int" "int" = some true)) fun _ => (by decide +kernel : kitB "str" "int" = some false)

theorem Same.new {H : Hp} {p : Addr} {o : HO} (h : H p = none) : Same H (upd H p o) := fun b u e => by
  rw [upd_ne (ne_of_none e h)]
  exact e
/-- a store to what H does not know -/
theorem Same.mut {H H' : Hp} {p : Addr} {o : HO} (s : Same H H') (h : H p = none) : Same H (upd H' p o) := fun b u e => by
  rw [upd_ne (ne_of_none e h)]
  exact s b u e
theorem Same.seqT {K : PySem.W.Frag} {H H' : Hp} {a : Addr} {xs : List V} (e : Same H H') (h : SqT K H a xs) : SqT K H' a xs := by
  rcases h with (h | ⟨o, h⟩) | h
  · exact .inl (.inl (e _ _ h))
  · exact .inl (.inr ⟨o, e _ _ h⟩)
  · exact .inr h
/-- [..] == [] of an empty list -/
theorem ne_empty {K : PySem.W.Frag} {H : Hp} {a b : Addr} {Q : VK} (ha : SqL K H a []) (hb : SqL K H b []) (q : Q (.bl false) H) : rNeD K (.ref a) (.ref b) H Q :=
  ⟨.list [], .list [], .lst ha .nil, .lst hb .nil, by decide +kernel, by decide +kernel, q⟩

/-! ## one's own short ways -/
abbrev St : Type := L2.St
theorem exw {α : Type} {P : α → Prop} {a : α} (h : P a) : ∃ x, P x := ⟨a, h⟩
/-- for over a text that the body leaves as it is -/
theorem for_str {x : Str} {g : TG} {tb : TS} {D : Ends} {σ : St} {H : Hp} (Pv : Nat → St → Hp → Prop) (h0 : Pv 0 σ H)
    (hs : ∀ i c σ H, x.cps[i]? = some c → Pv i σ H → g (.str ⟨#[c]⟩) σ H fun σ2 H2 => tb { D with nx := Pv (i + 1), ct := Pv (i + 1), bk := D.nx } σ2 H2) (hd : ∀ σ H, Pv x.cps.size σ H → D.nx σ H) :
    ∃ W : Nat → Nat → St → Hp → Prop, (∃ m, W 0 m σ H) ∧ ∀ i m σ H, W i m σ H →
      ((Its x).stop i H ∧ D.nx σ H) ∨ ((Its x).go i H ∧ ∃ N : St → Hp → Prop, (∀ σ' H', N σ' H' → ∃ m', m' < m ∧ W (i + 1) m' σ' H') ∧ ∀ v H', (Its x).yld i H v H' → g v σ H' fun σ2 H2 => tb { D with nx := N, ct := N, bk := D.nx } σ2 H2) := by
  refine ⟨fun i m σ H => m = x.cps.size - i ∧ i ≤ x.cps.size ∧ Pv i σ H, ⟨x.cps.size, by simp, Nat.zero_le _, h0⟩, ?_⟩
  rintro i m σ H ⟨rfl, hi, p⟩
  by_cases hlt : i < x.cps.size
  · refine .inr ⟨hlt, Pv (i + 1), fun σ' H' p' => ⟨x.cps.size - (i + 1), by omega, rfl, hlt, p'⟩, fun v H' y => ?_⟩
    obtain ⟨e, c, hc, y⟩ := y
    subst e y
    exact hs i c σ _ hc p
  · have e : i = x.cps.size := by omega
    subst e
    exact .inl ⟨Nat.le_refl _, hd σ H p⟩
theorem gcons_eq {t : TG} {u : TGs} {v : V} {r : List V} {σ : L2.St} {H : Hp} {Q : L2.St → Hp → Prop} : gCons t u (v :: r) σ H Q ↔ t v σ H fun σ' H' => u r σ' H' Q :=
  ⟨fun ⟨_, _, e, q⟩ => by cases e; exact q, fun q => ⟨v, r, rfl, q⟩⟩
theorem gnil_eq {σ : L2.St} {H : Hp} {Q : L2.St → Hp → Prop} : gNil [] σ H Q ↔ Q σ H := ⟨fun ⟨_, q⟩ => q, fun q => ⟨rfl, q⟩⟩
theorem cxOf_K {CX : CXT} {P : Program} {w : World} {K : PySem.W.Frag} {mg : Str → Option Value} {base : Heap} {N : List Str} {q : Str} {sc : Scope} {f : Addr} {cd : Value} {A : Around} {outer : List Env} {s : Shared} {H : Hp} {E : XK} :
    (cxOf CX P w K mg base N q sc f cd A outer s H E).K = K := rfl
end Ru

set_option Elab.async false
set_option linter.all false
set_option maxRecDepth 100000
set_option maxHeartbeats 2000000
/-! objects: methods by the receiver's class, tuple(d.keys()), xs != [] of any list -/
namespace Ru
open PySem PySem.Spec PyProof.Rows L2
abbrev St' : Type := L2.St

/-! ## methods by class -/
structure DispAt (P : Program) (w : World) (K : PySem.W.Frag) (mg : Str → Option Value) (base : Heap) (cx : CXT) (T : Addr → Prop) (m : Str) (k : Nat) (ps : List Str) (sp : Addr → Sp) : Prop where
  ex : ∀ C, T C → ∃ f fd, Cls K C ∧ Meth K C m f ∧ Binds K fd ps [] ∧ FnOk P w K mg base cx k f fd ps (sp C)
theorem DispAt.mono {P : Program} {w : World} {K : PySem.W.Frag} {mg : Str → Option Value} {base : Heap} {cx : CXT} {T : Addr → Prop} {m : Str} {j k : Nat} {ps : List Str} {sp : Addr → Sp} (D : DispAt P w K mg base cx T m j ps sp) (h : j ≤ k) : DispAt P w K mg base cx T m k ps sp :=
  ⟨fun C t => let ⟨f, fd, h1, h2, h3, h4⟩ := D.ex C t; ⟨f, fd, h1, h2, h3, h4.mono h⟩⟩
theorem DispAt.imp {P : Program} {w : World} {K : PySem.W.Frag} {mg : Str → Option Value} {base : Heap} {cx : CXT} {T : Addr → Prop} {m : Str} {k : Nat} {ps : List Str} {sp sp' : Addr → Sp} (D : DispAt P w K mg base cx T m k ps sp) (h : ∀ C vs H Q E, T C → sp' C vs H Q E → sp C vs H Q E) : DispAt P w K mg base cx T m k ps sp' :=
  ⟨fun C t => let ⟨f, fd, h1, h2, h3, h4⟩ := D.ex C t; ⟨f, fd, h1, h2, h3, h4.imp fun vs H Q E => h C vs H Q E t⟩⟩
/-- o.m(..), o an instance of one of the classes T -/
def tMethD (T : Addr → Prop) (m : Str) (sp : Addr → Sp) (E : XK) (ta : TE) (t : TA) : TE := fun σ H Q => ta σ H fun x H1 => ∃ a C dx fs, x = .ref a ∧ H1 a = some (.ins C dx fs) ∧ T C ∧ fs.lookup m = none ∧
  t σ H1 fun vs H2 => sp C (x :: vs) H2 Q E
section
variable {X : Cx} {cx : CXT} {j k : Nat} {ps : List Str} {sp : Addr → Sp} {E : XK} {T : Addr → Prop} {m : Str} {p pos apos : Pos} {e o : Expr} {es : List Expr} {ta : TE} {t : TA}
theorem pe_methD {pl : Sem Bool} (D : DispAt X.prog X.w X.K X.mg X.base cx T m k ps sp) (hr : Room j X.A) (hx : Passes cx X E) (he : PE X o ta) (ha : PA X (e :: es) t) (hj : k ≤ j := by decide)
    (hst : starEach (e :: es) X.env = (false, eval e X.env) :: starEach es X.env := by rfl) (hpl : (backTo pos (starEach es X.env)).any (·.1) = false := by rfl)
    (ht : eval (.Call (.Attribute o m apos) (e :: es) [] pos) X.env = (do
      let ov ← eval o X.env
      standAt apos.atName
      let (f, first) ← holding [ov] (getMethod ov m pl)
      callWith pos f first (backTo pos (starEach (e :: es) X.env)) (backToKw pos (keywordEach [] X.env))) := by rfl) :
    PE X (.Call (.Attribute o m apos) (e :: es) [] pos) (tMethD T m sp E ta t) := by
  refine ⟨fun pins s σ H Q I h => ?_⟩
  refine PySem.W.methodCall_KW (pl := pl) (thn (he.run pins s σ H _ I h) fun u s1 ⟨x, H1, I1, rx, a, C, dx, fs, ex, ea, tc, l, q⟩ => ?_) ht
  subst ex
  obtain rfl : u = Value.ref a := rx
  obtain ⟨f, fd, c, hm, hb, F⟩ := D.ex C tc
  refine getmeth_ok I1 ea c hm l ?_
  refine PySem.W.callWith_K (first := [.ref a]) (h₀ := X.base) I.ok.mod.kin hm.kp (thn (ha.run pos pins s1 σ H1 _ I1 q) fun us s2 ⟨vs, H2, I2, r, q2⟩ => ⟨I2.kIn, ?_⟩) hst hpl
  exact run_fn (us := .ref a :: us) (vs := .ref a :: vs) (dvs := []) (ds := []) F (hr.mono hj) hb .nil hx I2 (.cons rfl r) (by rw [List.append_nil]; exact q2)
theorem pe_methD0 {pl : Sem Bool} (D : DispAt X.prog X.w X.K X.mg X.base cx T m k ps sp) (hr : Room j X.A) (hx : Passes cx X E) (he : PE X o ta) (hj : k ≤ j := by decide)
    (ht : eval (.Call (.Attribute o m apos) [] [] pos) X.env = (do
      let ov ← eval o X.env
      standAt apos.atName
      let (f, first) ← holding [ov] (getMethod ov m pl)
      callWith pos f first (backTo pos (starEach [] X.env)) (backToKw pos (keywordEach [] X.env))) := by rfl) :
    PE X (.Call (.Attribute o m apos) [] [] pos) (tMethD T m sp E ta tNil) := by
  refine ⟨fun pins s σ H Q I h => ?_⟩
  refine PySem.W.methodCall_KW (pl := pl) (thn (he.run pins s σ H _ I h) fun u s1 ⟨x, H1, I1, rx, a, C, dx, fs, ex, ea, tc, l, q⟩ => ?_) ht
  subst ex
  obtain rfl : u = Value.ref a := rx
  obtain ⟨f, fd, c, hm, hb, F⟩ := D.ex C tc
  refine getmeth_ok I1 ea c hm l ?_
  refine PySem.W.callWith_K0 (first := [.ref a]) I1.kIn hm.kp ?_
  exact run_fn (us := [.ref a]) (vs := [.ref a]) (dvs := []) (ds := []) F (hr.mono hj) hb .nil hx I1 (.cons rfl .nil) q
end
/-- a method of the class at C, as the text has it -/
structure MethAt (K : PySem.W.Frag) (C : Addr) (m qual : Str) (st : Stmt) (ps : List Str) : Prop where
  ex : ∃ f fd, Meth K C m f ∧ Fun K m qual st f fd ∧ Binds K fd ps []
theorem methAt_mk {K : PySem.W.Frag} {C : Addr} {m qual : Str} {st : Stmt} {ps : List Str} {f : Addr} {oc : Value} {od an : Option Addr} {osl : Array (Option Value)} {kV doc pm cdv ct : Value}
    (a : PySem.W.findIn K (.ref C) m = some (some (.ref f))) (i : PySem.W.isFn K (.ref f) = true) (l : K.lookup f = some ⟨oc, od, .func (PySem.W.fnOf m qual (defArgs st) (defBody st) (defScope st) .none kV doc pm an cdv ct), osl⟩)
    (c : PySem.W.codeIn K cdv qual = true) (k : PySem.W.keepIn K (.ref f) = true)
    (b : ∀ us : List Value, us.length = ps.length → bindArgs (PySem.W.fnOf m qual (defArgs st) (defBody st) (defScope st) .none kV doc pm an cdv ct) ⟨us, []⟩ = pure (ps.zip us)) : MethAt K C m qual st ps :=
  ⟨f, _, ⟨a, i, k⟩, fun_mk l c k, .all b⟩
theorem methAt_ok {P : Program} {w : World} {K : PySem.W.Frag} {mg : Str → Option Value} {base : Heap} {C : Addr} {m qual : Str} {st : Stmt} {N ps : List Str} {k : Nat} {sp : Sp} (c : Cls K C) (D : MethAt K C m qual st ps) (S : FnScope N ps (defScope st)) (len : ∀ vs H Q E, sp vs H Q E → vs.length = ps.length)
    (hbody : ∀ (f : Addr) (cdv : Value) (A : Around) (outer : List Env) (s : Shared) (H : Hp) (vs : List V) (Q : VK) (E : XK), Room k (A.deeper (envOfC qual (defScope st) s.heap.objs.size f cdv)) → sp vs H Q E →
      ∃ t, PSs (cxOf CX0 P w K mg base N qual (defScope st) f cdv A outer s H E).nox (defBody st) t ∧ t { nx := fun _ H' => Q .non H', rt := Q } (start N vs) H) :
    ∃ f fd, Cls K C ∧ Meth K C m f ∧ Binds K fd ps [] ∧ FnOk P w K mg base CX0 (k + 1) f fd ps sp := by
  obtain ⟨f, fd, h1, h2, h3⟩ := D.ex
  exact ⟨f, fd, c, h1, h3, h2.ok S len (hbody f)⟩
/-- what is asked of an own class -/
structure ClsAt (K : PySem.W.Frag) (mg : Str → Option Value) (x : Str) (C : Addr) : Prop where
  mg_ : mg x = some (.ref C)
  cl : Cls K C
  ha : PySem.W.findIn K (.ref C) "__class__" = some (some (.builtin "object.__class__"))
  hn : PySem.W.specialIn K (.builtin "object.__class__") "__get__" = some (some (.builtin "getset_descriptor.__get__"))
  htk : PySem.W.takesIn K (.builtin "object.__class__") = some true
  hm : PySem.W.mroIn K C (.type "object") = some true
  mkg : PySem.W.makesIn K C = true
  kp : PySem.W.keepIn K (.ref C) = true
theorem clsAt_mk {K : PySem.W.Frag} {mg : Str → Option Value} {h : Heap} {x : Str} {C : Addr} (X : K.In h) (G : h.Ns mainGlobals mg) (a : PySem.W.nsIn K mainGlobals x = some (some (.ref C)))
    (pg : PySem.W.plainGet K C Str.empty = true) (hd : PySem.W.hasDictIn K C = true) (po : PySem.W.plainOver K C = true) (sa : PySem.W.findIn K (.ref C) "__setattr__" = some (some (.builtin "object.__setattr__")))
    (ha : PySem.W.findIn K (.ref C) "__class__" = some (some (.builtin "object.__class__"))) (hn : PySem.W.specialIn K (.builtin "object.__class__") "__get__" = some (some (.builtin "getset_descriptor.__get__")))
    (htk : PySem.W.takesIn K (.builtin "object.__class__") = some true) (hm : PySem.W.mroIn K C (.type "object") = some true) (mk : PySem.W.makesIn K C = true) (kp : PySem.W.keepIn K (.ref C) = true) : ClsAt K mg x C :=
  ⟨PySem.W.mg_of X G a, ⟨pg, hd, po, sa⟩, ha, hn, htk, hm, mk, kp⟩
/-- a new instance of the class called x -/
structure MakAt (P : Program) (w : World) (K : PySem.W.Frag) (mg : Str → Option Value) (base : Heap) (cx : CXT) (x : Str) (C : Addr) (k : Nat) (ps : List Str) (sp : Sp) : Prop where
  ex : ∃ f fd, mg x = some (.ref C) ∧ Mk K C f ∧ Binds K fd ps [] ∧ FnOk P w K mg base cx k f fd ps sp
theorem makAt_of {P : Program} {w : World} {K : PySem.W.Frag} {mg : Str → Option Value} {base : Heap} {cx : CXT} {x : Str} {C : Addr} {k : Nat} {ps : List Str} {sp : Sp} (c : ClsAt K mg x C)
    (h : ∃ f fd, Cls K C ∧ Meth K C "__init__" f ∧ Binds K fd ps [] ∧ FnOk P w K mg base cx k f fd ps sp) : MakAt P w K mg base cx x C k ps sp := by
  obtain ⟨f, fd, _, h1, h2, h3⟩ := h
  exact ⟨f, fd, c.mg_, ⟨c.mkg, h1.at_, h1.fn, c.kp⟩, h2, h3⟩
section
variable {X : Cx} {cx : CXT} {j k : Nat} {ps : List Str} {sp : Sp} {E : XK} {x : Str} {C : Addr} {p pos : Pos} {e : Expr} {es : List Expr} {t : TA}
theorem pe_makeF (M : MakAt X.prog X.w X.K X.mg X.base cx x C k ps sp) (hr : Room j X.A) (hx : Passes cx X E) (ha : PA X (e :: es) t) (hj : k + 1 ≤ j := by decide) (hg : Gl X x := by rfl)
    (hdb : (x == ("__debug__" : Str)) = false := by decide) (he : starEach (e :: es) X.env = (false, eval e X.env) :: starEach es X.env := by rfl) (hpl : (backTo pos (starEach es X.env)).any (·.1) = false := by rfl) :
    PE X (.Call (.Name x p) (e :: es) [] pos) (tMake C sp [] E t) := by
  obtain ⟨f, fd, h1, h2, h3, h4⟩ := M.ex
  exact pe_make h2 h4 (hr.mono hj) hg h1 h3 .nil hx ha hdb he hpl
end

/-! ## isinstance(x, C), C one of one's own classes -/
theorem pe_cls {X : Cx} {x : Str} {C : Addr} {pos : Pos} (h : ClsAt X.K X.mg x C) (hg : Gl X x := by rfl) (hd : (x == ("__debug__" : Str)) = false := by decide) : PE X (.Name x pos) (tC (.ref C)) := pe_glob hg h.mg_ rfl hd
/-- the answer, by the receiver's class -/
def rIsO (K : PySem.W.Frag) (D : Addr) (T : Addr → Bool → Prop) : List V → Hp → VK → Prop := fun xs H Q => ∃ a C dx fs b, xs = [.ref a, .ref D] ∧ H a = some (.ins C dx fs) ∧ T C b ∧ Q (.bl b) H
/-- for each class C that may come: what it says, and isinstance's answer -/
def IsT (K : PySem.W.Frag) (D : Addr) (T : Addr → Bool → Prop) : Prop := ∀ C b, T C b → (∃ mg x, ClsAt K mg x C) ∧ PySem.W.kitOne K (.ref C) (.ref D) = some b
theorem call_isO {X : Cx} {D : Addr} {T : Addr → Bool → Prop} (h : IsT X.K D T) : CallR X (.builtin "isinstance") (rIsO X.K D T) := by
  intro pins s σ H xs us Q I r hq
  obtain ⟨a, C, dx, fs, b, rfl, ha, t, q⟩ := hq
  obtain ⟨⟨mg, x, c⟩, e⟩ := h C b t
  obtain ⟨u, w', rfl, ru, rw'⟩ := vals2 r
  cases rw'
  exact isinst_ok I ru (TyOf.ins ha c.cl c.ha c.hn c.htk c.hm) e fun tk => ⟨.bl b, H, I.tok _, rfl, q⟩

/-! ## tuple(d.keys()) -/
section
open PySem.W (KdlSrc kdu_collect KdlKeysView)
variable {prog : Program} {w : World} {A : Around} {E : Value → Shared → Prop} {s : Shared} {T : String} {r d : Addr} {n : Nat} {P : Nat → Value → Prop} {OK : Heap → Prop}
theorem code_tuple_new_kdl {Q₁ : Value → Shared → Prop} (K : KdlSrc prog w T r d n P OK) (hh : A.handled = none) (hok : OK s.heap) (hn : n ≤ sizeLine)
    (h : ∀ (h' : Heap) (tk : Nat) (acc : Array Value), (∀ b o, s.heap.get? b = some o → h'.get? b = some o) → ItemsOf P acc n →
      Q₁ (.ref h'.objs.size) { s with heap := h'.push { cls := .type "tuple", data := .seq acc }, toks := tk }) :
    codeAny (model prog w) A (.call (.builtin "tuple.__new__") ⟨[.type "tuple", .ref r], []⟩) (wants Q₁ E) s := by
  refine codeAny_of_tree ?_
  show wpAny _ A.in1 (do checkBuiltinCall "tuple.__new__" ⟨[.type "tuple", .ref r], []⟩; again (.builtin "tuple.__new__" ⟨[.type "tuple", .ref r], []⟩)) _ _ s
  refine wpAny_bind (wpAny_of_eq (F.newCall_tuple_1 _) (wpAny_pure ⟨plainId_quiet F.plain_tuple_new _, codeAny_builtin F.entry_tuple_new ?_⟩))
  rw [Around.under_plainId F.plain_tuple_new _]
  have hsub := sub_tuple_self
  have hinit := init_tuple_lookup
  have hmh := madeHere_tuple
  have hTI : s.TypeIs (.ref r) T := K.type s hok
  have hh1 : A.in1.handled = none := hh
  have hnt := K.notTuple
  wp_walk using wpAny_typeOf hTI, kdu_collect (A := A.in1) K hh1 hok hn
  intro h' tk acc hk hacc
  show wpAny _ _ (Builtin.Tuple.tupleExact acc.toList.toArray >>= fun v => ret v) _ _ _
  unfold Builtin.Tuple.tupleExact
  refine wpAny_bind (wpAny_newObj_type ?_ (by show acc.toList.toArray.size ≤ sizeLine; simp only [Array.toArray_toList]; rw [hacc.1]; exact hn))
  refine wpAny_pure ?_
  have e : acc.toList.toArray = acc := by simp
  rw [e]
  exact h h' tk acc hk hacc
theorem call_tuple_kdl {Q : Value → Shared → Prop} (K : KdlSrc prog w T r d n P OK) (hh : A.handled = none) (hok : OK s.heap) (hn : n ≤ sizeLine)
    (hQ : ∀ (h' : Heap) (tk : Nat) (acc : Array Value), (∀ b o, s.heap.get? b = some o → h'.get? b = some o) → ItemsOf P acc n →
      Q (.ref h'.objs.size) { s with heap := h'.push { cls := .type "tuple", data := .seq acc }, toks := tk }) :
    wpAny (model prog w) A (call (.type "tuple") [.ref r]) Q E s := by
  refine callType_codes (Q₁ := fun obj s₁ => s₁.TypeIs obj "tuple" ∧ Q obj s₁) F.called_tuple (F.typeCall_tuple_1 _) F.entry_object_init
    (code_tuple_new_kdl (A := A.in1) K hh hok hn fun h' tk acc hk hacc => ⟨⟨_, Heap.get?_push_size _ rfl, rfl⟩, hQ h' tk acc hk hacc⟩) fun obj s₁ h₁ => ?_
  exact ⟨h₁.1, F.args_object_init_2 obj _, object_init_meets F.called_tuple.init.lookup F.called_tuple.made (by decide) prog w A.in1 _ s₁ ⟨h₁.1, rfl, h₁.2⟩⟩
end
def tTupKeys (td : TE) : TE := fun σ H Q => td σ H fun x H1 => ∃ d kvs, x = .ref d ∧ H1 d = some (.dK kvs) ∧ ∀ q, H1 q = none → Q (.ref q) (upd H1 q (.tup (kvs.map fun kv => kV kv.1)))
theorem pe_tupKeys {X : Cx} {e : Expr} {td : TE} {p pos apos cpos : Pos} (hm : X.mg "tuple" = none) (he : PE X e td) (hc : X.calm = true := by rfl) (hg : Gl X "tuple" := by rfl) (hbase : attributeBase e "keys" X.env (eval e X.env) = eval e X.env := by rfl) (hline : (apos.endLine == cpos.line) = true := by rfl)
    (na : starEach [.Call (.Attribute e "keys" apos) [] [] cpos] X.env = (false, eval (.Call (.Attribute e "keys" apos) [] [] cpos) X.env) :: starEach [] X.env := by rfl) :
    PE X (.Call (.Name "tuple" p) [.Call (.Attribute e "keys" apos) [] [] cpos] [] pos) (tTupKeys td) := by
  refine ⟨fun pins s σ H Q I h => ?_⟩
  refine Call_ (ld_blt I hg hm boot_tuple (PyProof.Rows.callWith_type1 (args_cons ?_ na) na))
  refine wpAny_Call_method (T := "dict") (id := "dict.keys") hbase rfl hline F.plainAttrs_dict F.slot_dict_keys F.type_dict_keys (thn (he.run pins s σ H _ I h) fun u s1 ⟨x, H1, I1, rx, d, kvs, ex, hd, q⟩ => ?_)
  subst ex
  obtain rfl : u = Value.ref d := rx
  obtain ⟨z, lo, vs, rk, hdt⟩ := (show ObjOk X.prog X.w H1 s1.heap d (.dK kvs) from I1.hok d _ hd)
  obtain ⟨ep, hat⟩ := hdt.dictAt
  have hl : kvs.length = vs.length := Paired.length rk
  refine ⟨hat.dictOf.typeIs, hat.dictOf.mapOf.noDict, ?_⟩
  have k2 : ∀ b o, s1.heap.get? b = some o → (s1.heap.push { cls := .type "dict_keys", data := .fields #[.ref d] }).get? b = some o := fun b ob q => Heap.get?_push_of_some _ q
  have I2 : Inv X pins σ H1 { s1 with heap := s1.heap.push { cls := .type "dict_keys", data := .fields #[.ref d] } } := I1.kept (t' := s1.toks) k2
  have view : PySem.W.KdlKeysView (s1.heap.push { cls := .type "dict_keys", data := .fields #[.ref d] }) s1.heap.objs.size d := ⟨_, Heap.get?_push_size _ rfl, rfl, rfl⟩
  have fin : wpAny (model X.prog X.w) X.A (call (.type "tuple") [.ref s1.heap.objs.size]) (EP X pins σ Q) X.xe { s1 with heap := s1.heap.push { cls := .type "dict_keys", data := .fields #[.ref d] } } := by
    refine call_tuple_kdl (PySem.W.kdl_keys (knd := mixKind X.prog X.w) (kvs := vs) (ep := ep) (d := d)) (I1.ok.hd hc) ⟨view, hat.push _⟩ (by rw [← hl]; exact z) fun h' tk acc hk hacc => ?_
    have I3 : Inv X pins σ H1 { s1 with heap := h', toks := tk } := I2.kept (h' := h') (t' := tk) hk
    have el : acc.toList.length = acc.size := by simp
    have rv : Vals (kvs.map fun kv => kV kv.1) acc.toList := by
      refine vals_of_at (by rw [List.length_map, el, hacc.1, hl]) fun j x w h1 h2 => ?_
      obtain ⟨k, y, hky, hi⟩ := hacc.2 j w (by rw [← Array.getElem?_toList]; exact h2)
      have e1 : (kvs.map (·.1))[j]? = some k := by
        rw [KV.keys rk, List.getElem?_map, hky] <;> rfl
      have e2 : (kvs.map fun kv => kV kv.1)[j]? = some (kV k) := by
        have e3 : (kvs.map fun kv => kV kv.1) = (kvs.map (·.1)).map kV := by rw [List.map_map] <;> rfl
        rw [e3, List.getElem?_map, e1] <;> rfl
      rw [e2] at h1
      cases h1
      exact keyIs_rel hi
    have hz : (kvs.map fun kv => kV kv.1).length ≤ sizeLine := by rw [List.length_map]; exact z
    have I4 : Inv X pins σ (upd H1 h'.objs.size (.tup (kvs.map fun kv => kV kv.1))) { s1 with heap := h'.push { cls := .type "tuple", data := .seq acc }, toks := tk } := by
      refine I3.laid (t' := tk) (fun b o e => Heap.get?_push_of_some _ e) (Nat.le_refl _) (show ObjOk X.prog X.w _ _ _ (.tup _) from ⟨hz, acc.toList, rv, ?_⟩)
      have e5 : acc.toList.toArray = acc := by simp
      rw [e5]
      exact ⟨_, Heap.get?_push_size _ rfl, rfl, _, rfl⟩
    exact ⟨.ref h'.objs.size, _, I4, rfl, q _ (I3.hok.fresh (Nat.le_refl _))⟩
  show wpAny _ _ (callWith cpos (.builtin "dict.keys") [.ref d] [] []) _ X.xe s1
  exact method_meetsIn F.slot_dict_keys F.entry_dict_keys rfl (PySem.evalArgs_none ⟨rfl, hat.dictOf.typeIs, F.args_dict_keys_1 _, _, PySem.W.kdl_meets_keys (mixKind X.prog X.w) d lo, ⟨vs, hat.dictOf⟩, args_nil fin⟩)

/-! ## xs != [] of any list -/
def rNeE (K : PySem.W.Frag) : R2 := fun x y H Q => ∃ a b xs, x = .ref a ∧ y = .ref b ∧ SqL K H a xs ∧ SqL K H b [] ∧ Q (.bl (!xs.isEmpty)) H
theorem op_neE {X : Cx} (hu : X.A.units < cLine) : OpR X (compareOp .NotEq) (rNeE X.K) := by
  intro pins s σ H x y v u Q I rx ry h
  obtain ⟨a, b, xs, rfl, rfl, ha, hb, q⟩ := h
  obtain rfl : v = .ref a := rx
  obtain rfl : u = .ref b := ry
  obtain ⟨its, r1, p1, z1⟩ := I.list ha
  obtain ⟨jts, r2, p2, z2⟩ := I.list hb
  cases r2
  cases r1 with
  | nil => exact SeqAt.RcNeAt.lists (e := fun _ => true) p1.isList p2.isList rfl hu (fun j h1 _ => absurd h1 (by simp)) X.prog X.w _ _ ⟨.bl _, H, I, rfl, q⟩
  | cons r t => exact SeqAt.RcNeAt.lists_lengths p1.isList p2.isList (by simp) hu X.prog X.w _ _ ⟨.bl _, H, I, rfl, q⟩
/-! ## what never changes: tuples, instances of the classes T -/
def ImmO (T : Addr → Prop) : HO → Prop
  | .tup _ => True
  | .ins C _ _ => T C
  | _ => False
def Imm (T : Addr → Prop) (H H' : Hp) : Prop := ∀ b o, H b = some o → ImmO T o → H' b = some o
theorem Same.imm {T : Addr → Prop} {H H' : Hp} (s : Same H H') : Imm T H H' := fun b o e _ => s b o e
theorem Imm.refl {T : Addr → Prop} (H : Hp) : Imm T H H := fun _ _ e _ => e
theorem Imm.trans {T : Addr → Prop} {H H1 H2 : Hp} (a : Imm T H H1) (b : Imm T H1 H2) : Imm T H H2 := fun c o e i => b c o (a c o e i) i
/-- a store to what may change -/
theorem Imm.mut {T : Addr → Prop} {H : Hp} {p : Addr} {o u : HO} (h : H p = some u) (n : ¬ ImmO T u) : Imm T H (upd H p o) := fun b v e i => by
  rw [upd_ne]
  · exact e
  · rintro rfl
    rw [h] at e
    cases e
    exact n i
theorem Imm.new {T : Addr → Prop} {H : Hp} {p : Addr} {o : HO} (h : H p = none) : Imm T H (upd H p o) := Same.imm (Same.new h)
/-- all but what stands at p -/
def But (p : Addr) (H H' : Hp) : Prop := ∀ b o, H b = some o → b ≠ p → H' b = some o
theorem Same.but {p : Addr} {H H' : Hp} (s : Same H H') : But p H H' := fun b o e _ => s b o e
theorem But.trans {p : Addr} {H H1 H2 : Hp} (a : But p H H1) (b : But p H1 H2) : But p H H2 := fun c o e n => b c o (a c o e n) n
theorem But.upd {p : Addr} {H : Hp} {o : HO} : But p H (upd H p o) := fun b u e n => by rw [upd_ne n]; exact e
theorem But.imm {T : Addr → Prop} {p : Addr} {u : HO} {H H' : Hp} (s : But p H H') (h : H p = some u) (n : ¬ ImmO T u) : Imm T H H' := fun b o e i => s b o e (by
  rintro rfl
  rw [h] at e
  cases e
  exact n i)
theorem But.same {p : Addr} {H0 H H' : Hp} (s0 : Same H0 H) (s : But p H H') (h : H0 p = none) : Same H0 H' := fun b o e => s b o (s0 b o e) (ne_of_none e h)

/-! ## comprehensions: the list so far -/
theorem lc_push {H1 H4 : Hp} {D : Addr} {L : List V} {i : Nat} {y : V} (s : Same H1 H4) (nD : H1 D = none) (h : H4 D = some (.lst (L.take i))) (hy : L[i]? = some y) (hl : L.length ≤ 1000000) :
    ∃ acc, H4 D = some (.lst acc) ∧ acc.length < sizeLine ∧ (Same H1 (upd H4 D (.lst (acc ++ [y]))) ∧ upd H4 D (.lst (acc ++ [y])) D = some (.lst (L.take (i + 1)))) := by
  refine ⟨_, h, ?_, Same.mut s nD, ?_⟩
  · rw [List.length_take, sizeLine_eq]
    omega
  · rw [upd_same, List.take_succ, hy]
    rfl
theorem lk1 {f m : Str} {v : V} (h : (m == f) = false) : List.lookup m [(f, v)] = none := by
  simp [List.lookup, h]
theorem lk1s {f : Str} {v : V} : List.lookup f [(f, v)] = some v := by
  simp [List.lookup]
/-! ## xs == [] of any list; xs.count(y) of flat things; isinstance(t, tuple) -/
def rEqE (K : PySem.W.Frag) : R2 := fun x y H Q => ∃ a b xs, x = .ref a ∧ y = .ref b ∧ SqL K H a xs ∧ SqL K H b [] ∧ Q (.bl xs.isEmpty) H
theorem op_eqE {X : Cx} (hu : X.A.units < cLine) : OpR X (compareOp .Eq) (rEqE X.K) := by
  intro pins s σ H x y v u Q I rx ry h
  obtain ⟨a, b, xs, rfl, rfl, ha, hb, q⟩ := h
  obtain rfl : v = .ref a := rx
  obtain rfl : u = .ref b := ry
  obtain ⟨its, r1, p1, z1⟩ := I.list ha
  obtain ⟨jts, r2, p2, z2⟩ := I.list hb
  cases r2
  cases r1 with
  | nil => exact SeqAt.RcAt.lists (e := fun _ => true) p1.isList p2.isList rfl hu (fun j h1 _ => absurd h1 (by simp)) X.prog X.w _ _ ⟨.bl _, H, I, rfl, q⟩
  | cons r t => exact SeqAt.RcAt.lists_lengths p1.isList p2.isList (by simp) hu X.prog X.w _ _ ⟨.bl _, H, I, rfl, q⟩
theorem count_eqU {x : V} : ∀ {xs : List V} {us : List Value}, Vals xs us → xs.all flatV = true → us.countP (eqU x) = xs.countP fun y => eqV y x
  | _, _, .nil, _ => rfl
  | y :: xs, u :: us, .cons r t, f => by
    rw [List.all_cons, Bool.and_eq_true] at f
    rw [List.countP_cons, List.countP_cons, eqU_of r f.1, count_eqU t f.2]
def rCntF (K : PySem.W.Frag) : V → List V → Hp → VK → Prop := fun x xs H Q => ∃ (p : Addr) (ys : List V) (y : V), x = .ref p ∧ xs = [y] ∧ SqL K H p ys ∧ flatV y = true ∧ ys.all flatV = true ∧ Q (.int ((ys.countP fun z => eqV z y : Nat) : Int)) H
theorem mt_countF {X : Cx} : MtR X "list.count" (rCntF X.K) := by
  intro pins s σ H x xs v us Q I rx rxs h
  obtain ⟨p, ys, y, rfl, rfl, hs, fy, fys, q⟩ := h
  cases rx
  cases rxs with
  | cons ry rt =>
    rename_i uy ut
    cases rt
    obtain ⟨its, rv, ⟨⟨cls, dd, data, sl⟩, n, ho, hc, hdn, hd⟩, hlen⟩ := I.list hs
    simp only at hc hd
    subst hc hd
    refine call_meets PySem.F.slot_list_count ⟨_, ho, rfl⟩ PySem.F.entry_list_count (PySem.F.args_list_count_2 _ _)
      (SeqAt.list_countAt p its.toArray n dd sl uy (eqU y)) ⟨ho, fun w hw => mem_eqAt ry fy rv fys w (by simpa using hw), ?_⟩
    have ec : its.toArray.toList.countP (eqU y) = ys.countP fun z => eqV z y := by
      show its.countP (eqU y) = _
      exact count_eqU rv fys
    refine ⟨.int _, H, I.tok _, ⟨s.toks, ?_⟩, q⟩
    rw [ec]
def rIsTup (K : PySem.W.Frag) : List V → Hp → VK → Prop := fun xs H Q => ∃ a vs, xs = [.ref a, .ty "tuple"] ∧ H a = some (.tup vs) ∧ Q (.bl true) H
theorem call_isTup {X : Cx} : CallR X (.builtin "isinstance") (rIsTup X.K) := by
  intro pins s σ H xs us Q I r h
  obtain ⟨a, vs, rfl, ha, q⟩ := h
  exact call_isi pins s σ H _ us Q I r ⟨_, _, _, _, true, rfl, .ty "tuple", .base (.tup ha), kit_ty (by decide +kernel), q⟩
/-! ## slices of lists -/
theorem cutV_to (l : List V) (n : Nat) : cutV l none (some (n : Int)) = l.take n := by
  unfold cutV
  rw [HT.sIx_none, HT.sIx_nat, List.drop_zero, Nat.sub_zero]
  by_cases h : n ≤ l.length
  · rw [Nat.min_eq_left h]
  · rw [Nat.min_eq_right (by omega), List.take_of_length_le (Nat.le_refl _), List.take_of_length_le (by omega)]
theorem cutV_from (l : List V) (n : Nat) : cutV l (some (n : Int)) none = l.drop n := by
  unfold cutV
  rw [HT.sIx_none, HT.sIx_nat]
  by_cases h : n ≤ l.length
  · rw [Nat.min_eq_left h, List.take_of_length_le (by rw [List.length_drop]; omega)]
  · rw [Nat.min_eq_right (by omega), List.drop_of_length_le (Nat.le_refl _), List.drop_of_length_le (by omega)]
    simp
theorem cutV_last (l : List V) : cutV l none (some (-1)) = l.dropLast := by
  unfold cutV
  rw [HT.sIx_none, List.drop_zero, Nat.sub_zero, List.dropLast_eq_take]
  congr 1
  show (if (-1 : Int) < 0 then ((-1 : Int) + (l.length : Int)).toNat else min (-1 : Int).toNat l.length) = _
  rw [if_pos (by decide)]
  omega
theorem slL_to {K : PySem.W.Frag} {H : Hp} {a : Addr} {xs : List V} {i : Int} {Q : VK} (n : Nat) (e : i = (n : Int)) (h : SqL K H a xs) (k : ∀ p, H p = none → Q (.ref p) (upd H p (.lst (xs.take n)))) : rSlL K (.ref a) none (some i) H Q :=
  ⟨a, xs, rfl, h, fun p np => by rw [e, cutV_to]; exact k p np⟩
theorem slL_from {K : PySem.W.Frag} {H : Hp} {a : Addr} {xs : List V} {i : Int} {Q : VK} (n : Nat) (e : i = (n : Int)) (h : SqL K H a xs) (k : ∀ p, H p = none → Q (.ref p) (upd H p (.lst (xs.drop n)))) : rSlL K (.ref a) (some i) none H Q :=
  ⟨a, xs, rfl, h, fun p np => by rw [e, cutV_from]; exact k p np⟩
theorem slL_last {K : PySem.W.Frag} {H : Hp} {a : Addr} {xs : List V} {Q : VK} (h : SqL K H a xs) (k : ∀ p, H p = none → Q (.ref p) (upd H p (.lst xs.dropLast))) : rSlL K (.ref a) none (some (-1)) H Q :=
  ⟨a, xs, rfl, h, fun p np => by rw [cutV_last]; exact k p np⟩
end Ru

set_option Elab.async false
set_option linter.all false
set_option maxRecDepth 100000
set_option maxHeartbeats 2000000
/-! what is raised: defs that may raise, one's own classes of errors, a def that is asked while one is handled -/
namespace Ru
open PySem PySem.Spec PyProof.Rows L2

/-! ## defs that may raise -/
section
variable {P : Program} {w : World} {K : PySem.W.Frag} {mg : Str → Option Value} {base : Heap}
theorem fnAt_okX {x : Str} {st : Stmt} {N ps : List Str} {k : Nat} {sp : Sp} (D : DefAt K mg x st ps) (S : FnScope N ps (defScope st)) (len : ∀ vs H Q E, sp vs H Q E → vs.length = ps.length)
    (hbody : ∀ (f : Addr) (cdv : Value) (A : Around) (outer : List Env) (s : Shared) (H : Hp) (vs : List V) (Q : VK) (E : XK), Room k (A.deeper (envOfC x (defScope st) s.heap.objs.size f cdv)) → sp vs H Q E →
      ∃ t, PSs (cxOf (L2.CX P w) P w K mg base N x (defScope st) f cdv A outer s H E) (defBody st) t ∧ t { nx := fun _ H' => Q .non H', rt := Q } (start N vs) H) : FnAt P w K mg base (L2.CX P w) x (k + 1) ps sp := by
  obtain ⟨f, fd, h1, h2, h3⟩ := D.ex
  obtain ⟨oc, od, kV, doc, pm, an, cdv, ct, osl, e, lk, hcd⟩ := h2.ex
  subst e
  exact ⟨f, _, h1, h2.kp, h3, fn_of lk hcd S len fun A outer s H vs Q E hr hsp => hbody f cdv A outer s H vs Q E hr hsp⟩
theorem methAt_okX {C : Addr} {m qual : Str} {st : Stmt} {N ps : List Str} {k : Nat} {sp : Sp} (c : Cls K C) (D : MethAt K C m qual st ps) (S : FnScope N ps (defScope st)) (len : ∀ vs H Q E, sp vs H Q E → vs.length = ps.length)
    (hbody : ∀ (f : Addr) (cdv : Value) (A : Around) (outer : List Env) (s : Shared) (H : Hp) (vs : List V) (Q : VK) (E : XK), Room k (A.deeper (envOfC qual (defScope st) s.heap.objs.size f cdv)) → sp vs H Q E →
      ∃ t, PSs (cxOf (L2.CX P w) P w K mg base N qual (defScope st) f cdv A outer s H E) (defBody st) t ∧ t { nx := fun _ H' => Q .non H', rt := Q } (start N vs) H) :
    ∃ f fd, Cls K C ∧ Meth K C m f ∧ Binds K fd ps [] ∧ FnOk P w K mg base (L2.CX P w) (k + 1) f fd ps sp := by
  obtain ⟨f, fd, h1, h2, h3⟩ := D.ex
  obtain ⟨oc, od, kV, doc, pm, an, cdv, ct, osl, e, lk, hcd⟩ := h2.ex
  subst e
  exact ⟨f, _, c, h1, h3, fn_of lk hcd S len fun A outer s H vs Q E hr hsp => hbody f cdv A outer s H vs Q E hr hsp⟩
end
/-- what a callee lets out leaves the def, too -/
theorem passX {X : Cx} {E : XK} (tk : L2.Takes X fun cls d _ H => E cls d H) : Passes (L2.CX X.prog X.w) X E := L2.passes_call tk fun _ _ _ _ h => h
/-- around a try nothing is let out -/
theorem takesN {X : Cx} : L2.Takes X (fun _ _ _ _ => False) := fun _ _ x => by
  obtain ⟨_, _, _, _, _, _, _, _, _, _, _, _, _, _, _, _, z⟩ := x
  exact z.elim
section
variable {X : Cx} {W : WX} {j k : Nat} {ps : List Str} {sp : Sp} {x : Str} {p pos : Pos} {e : Expr} {es : List Expr} {t : TA}
/-- f(e, ..) within a try -/
theorem pe_callT (F : FnAt X.prog X.w X.K X.mg X.base (L2.CX X.prog X.w) x k ps sp) (hr : Room j X.A) (tk : L2.Takes X W) (ha : PA X (e :: es) t) (hj : k ≤ j := by decide) (hg : Gl X x := by rfl)
    (hdb : (x == ("__debug__" : Str)) = false := by decide) (he : starEach (e :: es) X.env = (false, eval e X.env) :: starEach es X.env := by rfl) (hpl : (backTo pos (starEach es X.env)).any (·.1) = false := by rfl) :
    PE X (.Call (.Name x p) (e :: es) [] pos) (tCallS sp (WE W) t) := by
  obtain ⟨f, fd, h1, h2, h3, h4⟩ := F.ex
  exact pe_callS h4 (hr.mono hj) hg h1 h2 h3 (fun σ => L2.passAt tk σ) ha hdb he hpl
end

/-! ## one's own classes of errors -/
/-- a class of errors called x, at C, over L, over ValueError -/
structure ExcAt (K : PySem.W.Frag) (mg : Str → Option Value) (x : Str) (C L : Addr) : Prop where
  gP : mg x = some (.ref C)
  xP : PySem.W.excIn K C [.type "ValueError", .type "Exception", .type "BaseException", .type "object"] "ValueError.__new__" = true
  kP : PySem.W.keepIn K (.ref C) = true
  is_ : ExcC K C
  tP : PySem.W.typeIn K (.ref C) = some (.type "type")
  mro : ∃ cd, PySem.W.clsIn K C = some cd ∧ cd.mro = [.ref C, .ref L, .type "ValueError", .type "Exception", .type "BaseException", .type "object"]
/-- the class over them -/
structure ErrAt (K : PySem.W.Frag) (mg : Str → Option Value) (x : Str) (L : Addr) : Prop where
  gP : mg x = some (.ref L)
  sub : PySem.W.subIn K (.ref L) (.type "BaseException") = some true
  tP : PySem.W.typeIn K (.ref L) = some (.type "type")
  hd : PySem.W.hasDictIn K L = true
theorem excAt_mk {K : PySem.W.Frag} {mg : Str → Option Value} {h : Heap} {x : Str} {C L : Addr} {cd : ClassData} (X : K.In h) (G : h.Ns mainGlobals mg) (a : PySem.W.nsIn K mainGlobals x = some (some (.ref C)))
    (b : PySem.W.excIn K C [.type "ValueError", .type "Exception", .type "BaseException", .type "object"] "ValueError.__new__" = true) (c : PySem.W.keepIn K (.ref C) = true)
    (d : PySem.W.findIn K (.ref C) "__getattribute__" = some (some (.builtin "BaseException.__getattribute__"))) (e : PySem.W.findIn K (.ref C) "__getattr__" = some none) (f : PySem.W.subIn K (.ref C) (.type "BaseException") = some true) (g : PySem.W.hasDictIn K C = true)
    (i : PySem.W.findIn K (.ref C) "__class__" = some (some (.builtin "object.__class__"))) (j : PySem.W.specialIn K (.builtin "object.__class__") "__get__" = some (some (.builtin "getset_descriptor.__get__"))) (k : PySem.W.takesIn K (.builtin "object.__class__") = some true)
    (l : PySem.W.mroIn K C (.type "object") = some true) (m : PySem.W.typeIn K (.ref C) = some (.type "type")) (n : PySem.W.clsIn K C = some cd) (o : cd.mro = [.ref C, .ref L, .type "ValueError", .type "Exception", .type "BaseException", .type "object"]) : ExcAt K mg x C L :=
  ⟨PySem.W.mg_of X G a, b, c, ⟨d, e, f, g, i, j, k, l⟩, m, cd, n, o⟩
theorem errAt_mk {K : PySem.W.Frag} {mg : Str → Option Value} {h : Heap} {x : Str} {L : Addr} (X : K.In h) (G : h.Ns mainGlobals mg) (a : PySem.W.nsIn K mainGlobals x = some (some (.ref L)))
    (b : PySem.W.subIn K (.ref L) (.type "BaseException") = some true) (c : PySem.W.typeIn K (.ref L) = some (.type "type")) (d : PySem.W.hasDictIn K L = true) : ErrAt K mg x L := ⟨PySem.W.mg_of X G a, b, c, d⟩
section
variable {K : PySem.W.Frag} {mg mg' : Str → Option Value} {x y : Str} {C D L M : Addr}
theorem ExcAt.subs (T : ExcAt K mg x C L) (v : Value) : PySem.W.subIn K (.ref C) v = some ([.ref C, .ref L, .type "ValueError", .type "Exception", .type "BaseException", .type "object"].contains v) := by
  obtain ⟨cd, h1, h2⟩ := T.mro
  show PySem.W.mroIn K C v = _
  unfold PySem.W.mroIn
  rw [h1, Option.bind_some, h2]
  rfl
theorem ExcAt.caught (T : ExcAt K mg x C L) (E : ErrAt K mg' y L) : PySem.W.exmOne K (.ref C) (.ref L) = some true := by
  refine PySem.W.exm_ref E.sub E.hd E.tP ?_
  rw [T.subs]
  congr 1
  simp
/-- isinstance(e, D) of an error of class C -/
theorem ExcAt.kit (T : ExcAt K mg x C L) (U : ExcAt K mg' y D L) (nl : C ≠ L ∧ D ≠ L) : PySem.W.kitOne K (.ref C) (.ref D) = some (decide (C = D)) := by
  obtain ⟨cd, h1, h2⟩ := U.mro
  unfold PySem.W.kitOne
  by_cases h : C = D
  · rw [if_pos (by rw [h]; exact beq_self_eq_true _), decide_eq_true h]
  · rw [if_neg (by rw [beq_iff_eq]; intro q; exact h (Value.ref.inj q)), decide_eq_false h]
    show (if ((PySem.W.clsIn K D).isSome && PySem.W.typeIn K (.ref D) == some (.type "type")) = true then PySem.W.subIn K (.ref C) (.ref D) else none) = _
    rw [h1, U.tP, if_pos (show ((some cd).isSome && some (Value.type "type") == some (Value.type "type")) = true from rfl), T.subs]
    congr 1
    have e1 : (Value.ref D == Value.ref C) = false := by
      rw [beq_eq_false_iff_ne]
      intro q
      exact h (Value.ref.inj q).symm
    have e2 : (Value.ref D == Value.ref L) = false := by
      rw [beq_eq_false_iff_ne]
      intro q
      exact nl.2 (Value.ref.inj q)
    rw [List.contains_cons, e1, List.contains_cons, e2]
    rfl
theorem ExcAt.kitV (T : ExcAt K mg x C L) : PySem.W.kitOne K (.ref C) (.type "ValueError") = some true := by
  unfold PySem.W.kitOne
  rw [if_neg (by rw [beq_iff_eq]; intro q; cases q)]
  show (if PySem.W.kitMeta "ValueError" = true then PySem.W.subIn K (.ref C) (.type "ValueError") else none) = _
  rw [if_pos (by decide +kernel), T.subs]
  congr 1
end
section
variable {X : Cx} {W : WX} {C L : Addr} {x m : Str} {j : Nat} {p p2 pos pos' : Pos}
/-- raise C('m') -/
theorem ps_raiseO (hc : X.calm = true) (T : ExcAt X.K X.mg x C L) (tk : L2.Takes X W) (hg : Gl X x := by rfl) (hdb : (x == ("__debug__" : Str)) = false := by decide) :
    PS X (.Raise (some (.Call (.Name x p) [.Constant (.str m) j p2] [] pos)) none pos') (fun _ σ H => W (.ref C) none σ H) :=
  L2.ps_raise hc tk (L2.pmk_own PySem.F.excBase_ValueError T.xP T.gP T.kP (raises_own T.is_.hs T.tP) hg hdb)
end

/-! ## a def that is asked of the error that is handled -/
/-- the promise of a def that bears the handled error's object p among its arguments -/
structure FnP (P : Program) (w : World) (K : PySem.W.Frag) (mg : Str → Option Value) (base : Heap) (CX : CXT) (k : Nat) (f : Addr) (fd : FuncData) (ps : List Str) (sp : Addr → Value → Option Addr → Sp) : Prop where
  len : ∀ a c d vs H Q E, sp a c d vs H Q E → vs.length = ps.length
  run : ∀ (A : Around) (outer : List Env) (s : Shared) (H : Hp) (args : Args) (us : List Value) (vs : List V) (Q : VK) (E : XK) (p : Addr × Obj) (c : Value) (d : Option Addr), Zc c d p.2 → (∃ vs, p.2.data = .fields vs) → L2H.RoomH k A → L2H.PinOk outer H s p → Env0 P w K mg base A outer s H → BindsTo s fd args (ps.zip us) → Vals vs us → sp p.1 c d vs H Q E →
    codeAny (model P w) A (.call (.ref f) args) (CR CX outer P w H s Q E) s
structure FnPAt (P : Program) (w : World) (K : PySem.W.Frag) (mg : Str → Option Value) (base : Heap) (cx : CXT) (x : Str) (k : Nat) (ps : List Str) (sp : Addr → Value → Option Addr → Sp) : Prop where
  ex : ∃ f fd, mg x = some (.ref f) ∧ PySem.W.keepIn K (.ref f) = true ∧ Binds K fd ps [] ∧ FnP P w K mg base cx k f fd ps sp
theorem fnPAt_ok {P : Program} {w : World} {K : PySem.W.Frag} {mg : Str → Option Value} {base : Heap} {x : Str} {st : Stmt} {N ps : List Str} {k : Nat} {sp : Addr → Value → Option Addr → Sp} (D : DefAt K mg x st ps) (S : FnScope N ps (defScope st)) (len : ∀ a c d vs H Q E, sp a c d vs H Q E → vs.length = ps.length)
    (hbody : ∀ (f : Addr) (cdv : Value) (A : Around) (outer : List Env) (s : Shared) (H : Hp) (vs : List V) (Q : VK) (E : XK) (p : Addr × Obj) (c : Value) (d : Option Addr), Zc c d p.2 → (∃ vs, p.2.data = .fields vs) → L2H.RoomH k (A.deeper (envOfC x (defScope st) s.heap.objs.size f cdv)) → sp p.1 c d vs H Q E →
      ∃ t, PSs (L2H.cxH CX0 P w K mg base N x (defScope st) f cdv A outer s H E p).nox (defBody st) t ∧ t { nx := fun _ H' => Q .non H', rt := Q } (start N vs) H) : FnPAt P w K mg base CX0 x (k + 1) ps sp := by
  obtain ⟨f, fd, h1, h2, h3⟩ := D.ex
  obtain ⟨oc, od, kV, doc, pm, an, cdv, ct, osl, e, lk, hcd⟩ := h2.ex
  subst e
  refine ⟨f, _, h1, h2.kp, h3, len, fun A outer s H args us vs Q E p cl d hz hf hr hpin e0 hb r hsp => ?_⟩
  have there : K.In s.heap := e0.mod.kin.keeps fun b o z => (e0.bs b o z).1
  have seen : ∀ y ∈ ps.zip us, (defScope st).names.lookup y.1 = some .local ∨ ((defScope st).names.lookup y.1 = some .cell ∧ ((cellsFrom (s.heap.objs.size + 1) (defScope st).names []).lookup y.1).isSome = true) := fun y hy =>
    (S.par y.1 (List.of_mem_zip hy).1).imp id fun q => ⟨q, PySem.W.cellsFrom_some _ _ _ (.inl q)⟩
  refine codeAny_call_function hr.depth (there _ _ lk) rfl S.co S.gen rfl (PySem.W.codeRec_of there hcd) (hb _ _ _ _ (wpAny_newFunctionEnv_cells S.kind seen fun env he s1 y => ?_))
  subst he
  have lim : s.heap.NoLimit := e0.mod.nolimit.keeps fun b o z => (e0.bs b o z).1
  refine ⟨lim.keeps y.toInCall.keep, codeAny_func ?_⟩
  obtain ⟨t, ht, hq⟩ := hbody f cdv A outer s H vs Q E p cl d hz hf (hr.deeper _) hsp
  refine wpAny_mono (ht.nox.run [] s1 (L2.start N vs) H _ (L2H.inv_startH S hpin e0 (len _ _ _ _ _ _ _ hsp) r y) hq) (fun fl s' hs => ?_) fun e s' hs => hs
  match fl, hs with
  | .ret u, ⟨v, _, H', J, rv, q⟩ => exact ⟨v, H', J.os, J.bare, J.base, J.hok, rv, q⟩
  | .next, ⟨_, H', J, q⟩ => exact ⟨.non, H', J.os, J.bare, J.base, J.hok, rfl, q⟩
  | .brk, ⟨_, _, _, q⟩ => exact False.elim q
  | .cont, ⟨_, _, _, q⟩ => exact False.elim q
/-- f(e, ..) in an except suite -/
theorem pe_callP {X : Cx} {a : Addr} {oe : Obj} {pn : List (Addr × Obj)} {j k : Nat} {x : Str} {ps : List Str} {sp : Addr → Value → Option Addr → Sp} {cls : Value} {d : Option Addr} {q pos : Pos} {e : Expr} {es : List Expr} {t : TA} (F : FnPAt X.prog X.w X.K X.mg X.base CX0 x k ps sp) (hz : Zc cls d oe) (hf : ∃ vs, oe.data = .fields vs) (hr : Room j X.A)
    (ha : PA (X.suite a ((a, oe) :: pn)) (e :: es) t) (hj : k ≤ j := by decide) (hg : Gl X x := by rfl)
    (hdb : (x == ("__debug__" : Str)) = false := by decide) (he : starEach (e :: es) X.env = (false, eval e X.env) :: starEach es X.env := by rfl) (hpl : (backTo pos (starEach es X.env)).any (·.1) = false := by rfl) :
    PE (X.suite a ((a, oe) :: pn)) (.Call (.Name x q) (e :: es) [] pos) (tCall (sp a cls d) [] E0 t) := by
  obtain ⟨f, fd, h1, h2, h3, h4⟩ := F.ex
  have room0 := (L2H.roomH_of hr).mono hj
  have room : L2H.RoomH k (X.suite a ((a, oe) :: pn)).A := ⟨room0.dp, room0.un⟩
  refine ⟨fun pins s σ H Q I h => wpAny_Call_Name_kw (ld_glob I hg h1 (PySem.W.callWith_K (h₀ := X.base) I.ok.mod.kin h2 (thn (ha.run pos pins s σ H _ I h) fun us s1 ⟨vs, H1, I1, r, z⟩ => ⟨I1.kIn, ?_⟩) he hpl) hdb)⟩
  have z : sp a cls d (vs ++ []) H1 Q E0 := z
  rw [List.append_nil] at z
  have b := h3 s1 us I1.kIn (by rw [List.append_nil, ← r.length]; exact h4.len _ _ _ _ _ _ _ z)
  rw [List.append_nil] at b
  obtain ⟨g1, g2, g3, g4, g5⟩ := I1.pin (a, oe) (List.mem_append_left _ List.mem_cons_self)
  refine wpAny_call (codeAny_mono (h4.run _ (X.suite a ((a, oe) :: pn)).stack s1 H1 ⟨us, []⟩ us vs Q E0 (a, oe) cls d hz hf room ⟨g1, g2, fun hm => (List.mem_cons.mp (I1.stkSub a hm)).elim g3 g4, g5⟩ I1.env0 b r z) fun r s' hq => ?_)
  match r, hq with
  | .error e, hq => exact False.elim hq
  | .ok (.ret u), hq => exact I1.after hq
  | .ok .next, hq => exact False.elim hq
  | .ok .brk, hq => exact False.elim hq
  | .ok .cont, hq => exact False.elim hq
/-- isinstance(e, c) in such a def, p's object an error of class C -/
def rIsP (K : PySem.W.Frag) (C : Addr) (p : Addr × Obj) : List V → Hp → VK → Prop := fun xs H Q => ∃ (c : V) (cv : Value) (b : Bool), xs = [.ref p.1, c] ∧ (∀ u, RelV c u → u = cv) ∧ PySem.W.kitOne K (.ref C) cv = some b ∧ Q (.bl b) H
/-- of some classes -/
def rIsPT (K : PySem.W.Frag) (C : Addr) (p : Addr × Obj) : List V → Hp → VK → Prop := fun xs H Q => ∃ (tp : Addr) (cs : List V) (us : List Value) (b : Bool), xs = [.ref p.1, .ref tp] ∧ H tp = some (.tup cs) ∧ Paired ClsV cs us ∧ PySem.W.kitAny K (.ref C) us = some b ∧ Q (.bl b) H
theorem instAt_of {h : Heap} {a D : Addr} {oe : Obj} (g : h.get? a = some oe) (hz : Zc (.ref D) none oe) (hf : ∃ vs, oe.data = .fields vs) : PySem.W.InstAt h a oe D none := by
  obtain ⟨vs, hv⟩ := hf
  refine ⟨g, hz.1, ?_, ?_⟩
  · unfold PySem.W.notCls
    rw [hv]
  · rw [hz.2]
    trivial
section
variable {X : Cx} {C : Addr} {p : Addr × Obj}
theorem call_isP (T : ExcC X.K C) (hz : Zc (.ref C) none p.2) (hf : ∃ vs, p.2.data = .fields vs) (hp : p ∈ X.pn) : CallR X (.builtin "isinstance") (rIsP X.K C p) := by
  intro pins s σ H xs us Q I r h
  obtain ⟨c, cv, b, rfl, hcv, e, q⟩ := h
  obtain ⟨u, w', rfl, ru, rw'⟩ := vals2 r
  cases (show u = Value.ref p.1 from ru)
  have ec := hcv _ rw'
  subst ec
  exact PySem.W.kia_one (PySem.W.handS_kitx_exc T.hg T.hk T.hs T.hd T.ha T.hn T.ht T.hm) I.kIn (instAt_of (I.pin p (List.mem_append_left _ hp)).1 hz hf) e (fun z => nomatch z) fun tk => ⟨.bl b, H, I.tok tk, rfl, q⟩
theorem call_isPT (T : ExcC X.K C) (hz : Zc (.ref C) none p.2) (hf : ∃ vs, p.2.data = .fields vs) (hp : p ∈ X.pn) : CallR X (.builtin "isinstance") (rIsPT X.K C p) := by
  intro pins s σ H xs us Q I r h
  obtain ⟨tp, cs, ws, b, rfl, hT, k, e, q⟩ := h
  obtain ⟨u, w', rfl, ru, rw'⟩ := vals2 r
  cases (show u = Value.ref p.1 from ru)
  cases (show w' = Value.ref tp from rw')
  obtain ⟨_, its, rv, o, h1, h2, n, h3⟩ := (show ObjOk X.prog X.w H s.heap tp (.tup cs) from I.hok tp _ hT)
  have e3 := ClsV.all k rv
  subst e3
  obtain ⟨oc, od, dt, sl⟩ := o
  simp only at h2 h3
  subst h2 h3
  exact PySem.W.kia_tup (PySem.W.handS_kitx_exc T.hg T.hk T.hs T.hd T.ha T.hn T.ht T.hm) I.kIn (instAt_of (I.pin p (List.mem_append_left _ hp)).1 hz hf) h1 e (fun z => nomatch z) fun tk => ⟨.bl b, H, I.tok tk, rfl, q⟩
end
/-- a class of errors as a value -/
theorem pe_exc {X : Cx} {x : Str} {C L : Addr} {pos : Pos} (h : ExcAt X.K X.mg x C L) (hg : Gl X x := by rfl) (hd : (x == ("__debug__" : Str)) = false := by decide) : PE X (.Name x pos) (tC (.ref C)) := pe_glob hg h.gP rfl hd
/-! ## t[::-1] of a tuple -/
theorem pick_rev (xs : Array Value) : ((List.range xs.size).filterMap fun (m : Nat) => xs[(((xs.size : Int) - 1) + (m : Int) * (-1)).toNat]?).toArray = xs.toList.reverse.toArray := by
  congr 1
  have e : ∀ m ∈ List.range xs.size, xs[(((xs.size : Int) - 1) + (m : Int) * (-1)).toNat]? = xs[xs.size - 1 - m]? := by
    intro m hm
    have := List.mem_range.mp hm
    congr 1
    omega
  have cong : ∀ (l : List Nat) (f g : Nat → Option Value), (∀ m ∈ l, f m = g m) → l.filterMap f = l.filterMap g := by
    intro l f g
    induction l with
    | nil => intro _; rfl
    | cons a r ih =>
      intro h
      rw [List.filterMap_cons, List.filterMap_cons, h a List.mem_cons_self, ih fun m hm => h m (List.mem_cons_of_mem _ hm)]
  rw [cong _ _ _ e]
  have e2 : (List.range xs.size).filterMap (fun m => xs[xs.size - 1 - m]?) = ((List.range xs.size).map fun k => xs.size - 1 - k).filterMap (xs[·]?) := by
    rw [List.filterMap_map]
    rfl
  rw [e2, PySem.W.krv_range, List.filterMap_reverse, PySem.W.krv_all]
section
variable {prog : Program} {w : World} {A : Around} {E : Value → Shared → Prop} {s : Shared}
theorem sliceApplied_rev {sl : Addr} {vs : Value} {n : Nat} {Q : Int × Int × Nat → Shared → Prop} (hs : s.heap.IsSliceOf sl .none .none vs) (ps : IsPart vs (some (-1))) (h : Q ((n : Int) - 1, -1, n) s) :
    wpAny (model prog w) A (Builtin.Slice.sliceApplied (.ref sl) (pure (n : Int))) Q E s := by
  obtain ⟨os, hos, hcs, hds⟩ := id hs
  unfold Builtin.Slice.sliceApplied Builtin.Slice.sliceFields
  refine wpAny_bind (wpAny_bind (wpAny_field hos hds (x := .none) rfl (wpAny_bind (wpAny_field hos hds (x := .none) rfl (wpAny_bind (wpAny_field hos hds (x := vs) rfl (wpAny_pure ?_)))))))
  refine wpAny_bind (HT.slicePart_ ps ?_)
  show wpAny _ _ (if ((-1 : Int) == 0) = true then _ else _) _ _ s
  rw [if_neg (by decide)]
  refine wpAny_bind (HT.slicePart_ .none (wpAny_bind (HT.slicePart_ .none (wpAny_bind (wpAny_pure ?_)))))
  have e : Builtin.Slice.slicePlaces ((n : Int) - 1) (-1) (-1) = n := by
    unfold Builtin.Slice.slicePlaces
    rw [if_neg (by decide)]
    by_cases hn : (n : Int) - 1 > -1
    · rw [if_pos hn, show (- -1 : Int) = 1 by decide, Int.ediv_one]
      omega
    · rw [if_neg hn]
      omega
  show wpAny _ _ (pure ((n : Int) - 1, (-1 : Int), Builtin.Slice.slicePlaces ((n : Int) - 1) (-1) (-1))) _ _ s
  rw [e]
  exact wpAny_pure h
theorem getItem_tuple_rev {t sl : Addr} {items : Array Value} {vs : Value} {Q : Value → Shared → Prop} (ht : IsTup s.heap t items) (hs : s.heap.IsSliceOf sl .none .none vs) (ps : IsPart vs (some (-1)))
    (h : Q (.ref s.heap.objs.size) { s with heap := s.heap.push { cls := .type "tuple", data := .seq items.toList.reverse.toArray } }) (hsz : items.size ≤ sizeLine) : wpAny (model prog w) A (getItem (.ref t) (.ref sl)) Q E s := by
  have room : sizeOk (.seq items.toList.reverse.toArray) := by
    show items.toList.reverse.toArray.size ≤ sizeLine
    rw [List.size_toArray, List.length_reverse, Array.length_toList]
    exact hsz
  obtain ⟨os, hos, hcs, hds⟩ := id hs
  have hTs : s.TypeIs (.ref sl) "slice" := ⟨os, hos, hcs⟩
  unfold getItem
  try with_reducible refine wpAny_holding ?_
  first | refine wpAny_bind (wpAny_pure ?_) | skip
  refine wpAny_bind (wpAny_sequenceKey ht.typeIs (by decide) ?_)
  refine wpAny_bind (wpAny_callSpecial?_slot (name := Str.ofString "__getitem__") ht.typeIs PyProof.Rows.slot_tuple_getitem
    (wpAny_call_entry PyProof.Rows.slot_tuple_getitem ht.typeIs entry_tuple_getitem ?_ (args_tuple_getitem _ _)))
  show wpAny _ _ (Builtin.Tuple.tupleItemsOf (.ref t) >>= _) _ _ s
  refine wpAny_bind (tupleItemsOf_ ht ?_)
  refine wpAny_bind (wpAny_typeOf hTs ?_)
  rw [if_pos (by decide)]
  refine wpAny_bind (sliceApplied_rev hs ps ?_)
  show wpAny _ _ (if ((items.size : Int) - 1 == 0 && (-1 : Int) == 1 && items.size == items.size) = true then _ else _) _ _ s
  rw [if_neg (by rw [show ((-1 : Int) == 1) = false from rfl, Bool.and_false, Bool.false_and]; exact Bool.false_ne_true), pick_rev]
  first
    | exact wpAny_bind (m := Builtin.Tuple.tupleExact _) (wpAny_newObj_type (wpAny_pure ⟨_, rfl, wpAny_pure h⟩) room)
    | exact wpAny_bind (m := Builtin.Tuple.tupleExact _) (wpAny_newObj_type (wpAny_bind (wpAny_pure (wpAny_pure ⟨_, rfl, wpAny_pure h⟩))) room)
    | exact wpAny_bind (wpAny_bind (m := Builtin.Tuple.tupleExact _) (wpAny_newObj_type (wpAny_pure (wpAny_pure ⟨_, rfl, wpAny_pure h⟩)) room))
    | exact wpAny_bind (wpAny_bind (m := Builtin.Tuple.tupleExact _) (wpAny_newObj_type (wpAny_pure ⟨_, rfl, wpAny_pure h⟩) room))
end
def tRevT (K : PySem.W.Frag) (te : TE) : TE := fun σ H Q => te σ H fun x H1 => ∃ a xs, x = .ref a ∧ SqT K H1 a xs ∧ ∀ p, H1 p = none → Q (.ref p) (upd H1 p (.tup xs.reverse))
theorem pe_revT {X : Cx} {e : Expr} {te : TE} {k : Nat} {p1 p2 p3 pos : Pos} (he : PE X e te) : PE X (.Subscript e (.Slice none none (some (.UnaryOp .USub (.Constant (.int 1) k p1) p2)) p3) pos) (tRevT X.K te) := by
  refine ⟨fun pins s σ H Q I h => ?_⟩
  refine Subscript_ (thn (he.run pins s σ H _ I h) fun v s1 ⟨x, H1, I1, r1, a, xs, ex, hx, q⟩ => ?_)
  subst ex
  cases r1
  have hst : PO X (some (.UnaryOp .USub (.Constant (.int 1) k p1) p2)) (tPart (tUn (rU fun i => .int (-i)) (tC (.int 1)))) := po_some (pe_un un_neg pe_int)
  refine wpAny_Slice ?_
  rw [evalPart_none]
  refine wpAny_pure ?_
  refine wpAny_pure ?_
  refine thn (hst.run pins s1 σ H1 (fun o H4 => o = some (-1) ∧ H4 = H1) I1 ⟨1, rfl, -1, rfl, rfl, rfl⟩) fun vs s4 ⟨o, H4, I4, ps, eo, e4⟩ => ?_
  subst eo e4
  have I5 : Inv X pins σ H4 { s4 with heap := s4.heap.push { cls := .type "slice", data := .fields #[.none, .none, vs] } } := I4.kept (t' := s4.toks) fun b ob q => Heap.get?_push_of_some _ q
  obtain ⟨its, r, ht, hz⟩ := I5.tuple hx
  have hlen := r.length
  show wpAny (model X.prog X.w) X.A (subscriptTail e (.Slice none none (some (.UnaryOp .USub (.Constant (.int 1) k p1) p2)) p3) (.ref a) (.ref s4.heap.objs.size)) (EP X pins σ Q) X.xe { s4 with heap := s4.heap.push { cls := .type "slice", data := .fields #[.none, .none, vs] } }
  refine tail_any (ops := [.ref a, .ref s4.heap.objs.size]) ht.typeIs PyProof.Rows.slot_tuple_getitem.lookup ?_ (by with_unfolding_all rfl)
  refine getItem_tuple_rev ht (Heap.IsSliceOf.new _ .none .none vs) ps ?_ (by rw [List.size_toArray]; omega)
  refine ⟨.ref _, _, I5.laid (t' := s4.toks) (o := .tup xs.reverse) (fun b ob q => Heap.get?_push_of_some _ q) (Nat.le_refl _) ?_, rfl, q _ (I5.hok.fresh (Nat.le_refl _))⟩
  exact ⟨by rw [List.length_reverse]; exact hz, _, by simpa using r.reverse, IsTup.new _ _⟩

/-! ## C.m(o, ..): a def of a class, read off the class itself -/
structure ClsFnAt (K : PySem.W.Frag) (C : Addr) (m qual : Str) (st : Stmt) (ps : List Str) : Prop where
  ex : ∃ f fd, PySem.W.readsIn K C (.type "type") = true ∧ PySem.W.specialIn K (.ref C) "__getattribute__" = some (some (.builtin "type.__getattribute__")) ∧ PySem.W.findCls K (.ref C) (.type "type") m = some (.val (.ref f)) ∧ Fun K m qual st f fd ∧ Binds K fd ps []
theorem clsFnAt_mk {K : PySem.W.Frag} {C : Addr} {m qual : Str} {st : Stmt} {ps : List Str} {f : Addr} {oc : Value} {od an : Option Addr} {osl : Array (Option Value)} {kV doc pm cdv ct : Value}
    (r : PySem.W.readsIn K C (.type "type") = true) (g : PySem.W.specialIn K (.ref C) "__getattribute__" = some (some (.builtin "type.__getattribute__"))) (a : PySem.W.findCls K (.ref C) (.type "type") m = some (.val (.ref f)))
    (l : K.lookup f = some ⟨oc, od, .func (PySem.W.fnOf m qual (defArgs st) (defBody st) (defScope st) .none kV doc pm an cdv ct), osl⟩)
    (c : PySem.W.codeIn K cdv qual = true) (k : PySem.W.keepIn K (.ref f) = true)
    (b : ∀ us : List Value, us.length = ps.length → bindArgs (PySem.W.fnOf m qual (defArgs st) (defBody st) (defScope st) .none kV doc pm an cdv ct) ⟨us, []⟩ = pure (ps.zip us)) : ClsFnAt K C m qual st ps :=
  ⟨f, _, r, g, a, fun_mk l c k, .all b⟩
/-- the promise of a def that is read off the class C -/
structure ClsFn (P : Program) (w : World) (K : PySem.W.Frag) (mg : Str → Option Value) (base : Heap) (cx : CXT) (C : Addr) (m : Str) (k : Nat) (ps : List Str) (sp : Sp) : Prop where
  ex : ∃ f fd, PySem.W.readsIn K C (.type "type") = true ∧ PySem.W.specialIn K (.ref C) "__getattribute__" = some (some (.builtin "type.__getattribute__")) ∧ PySem.W.findCls K (.ref C) (.type "type") m = some (.val (.ref f)) ∧ PySem.W.keepIn K (.ref f) = true ∧ Binds K fd ps [] ∧ FnOk P w K mg base cx k f fd ps sp
theorem clsFn_okX {P : Program} {w : World} {K : PySem.W.Frag} {mg : Str → Option Value} {base : Heap} {C : Addr} {m qual : Str} {st : Stmt} {N ps : List Str} {k : Nat} {sp : Sp} (D : ClsFnAt K C m qual st ps) (S : FnScope N ps (defScope st)) (len : ∀ vs H Q E, sp vs H Q E → vs.length = ps.length)
    (hbody : ∀ (f : Addr) (cdv : Value) (A : Around) (outer : List Env) (s : Shared) (H : Hp) (vs : List V) (Q : VK) (E : XK), Room k (A.deeper (envOfC qual (defScope st) s.heap.objs.size f cdv)) → sp vs H Q E →
      ∃ t, PSs (cxOf (L2.CX P w) P w K mg base N qual (defScope st) f cdv A outer s H E) (defBody st) t ∧ t { nx := fun _ H' => Q .non H', rt := Q } (start N vs) H) :
    ClsFn P w K mg base (L2.CX P w) C m (k + 1) ps sp := by
  obtain ⟨f, fd, h1, h2, h3, h4, h5⟩ := D.ex
  obtain ⟨oc, od, kV, doc, pm, an, cdv, ct, osl, e, lk, hcd⟩ := h4.ex
  subst e
  exact ⟨f, _, h1, h2, h3, h4.kp, h5, fn_of lk hcd S len fun A outer s H vs Q E hr hsp => hbody f cdv A outer s H vs Q E hr hsp⟩
theorem pe_clsF {X : Cx} {cx : CXT} {j k : Nat} {C : Addr} {ps : List Str} {sp : Sp} {E : XK} {m : Str} {pos apos : Pos} {e o : Expr} {es : List Expr} {t : TA} {pl : Sem Bool} (F : ClsFn X.prog X.w X.K X.mg X.base cx C m k ps sp) (hr : Room j X.A) (hx : Passes cx X E) (he : PE X o (tC (.ref C))) (ha : PA X (e :: es) t) (hj : k ≤ j := by decide)
    (hst : starEach (e :: es) X.env = (false, eval e X.env) :: starEach es X.env := by rfl) (hpl : (backTo pos (starEach es X.env)).any (·.1) = false := by rfl)
    (ht : eval (.Call (.Attribute o m apos) (e :: es) [] pos) X.env = (do
      let ov ← eval o X.env
      standAt apos.atName
      let (f, first) ← holding [ov] (getMethod ov m pl)
      callWith pos f first (backTo pos (starEach (e :: es) X.env)) (backToKw pos (keywordEach [] X.env))) := by rfl) :
    PE X (.Call (.Attribute o m apos) (e :: es) [] pos) (tCall sp [] E t) := by
  obtain ⟨f, fd, h1, h2, h3, h4, h5, h6⟩ := F.ex
  refine ⟨fun pins s σ H Q I h => ?_⟩
  refine PySem.W.methodCall_KW (pl := pl) (thn (he.run pins s σ H (fun x H1 => x = .ref C ∧ H1 = H) I ⟨rfl, rfl⟩) fun u s1 ⟨x, H1, I1, rx, ex, eh⟩ => ?_) ht
  subst ex eh
  obtain rfl : u = Value.ref C := rx
  refine PySem.W.method_cls I1.kIn h2 (PySem.W.cls_value I1.kIn h1 h3 rfl ?_)
  have I2 := I1.tok (s1.toks + 1)
  refine PySem.W.callWith_K (first := []) (h₀ := X.base) I.ok.mod.kin h4 (thn (ha.run pos pins _ σ H1 _ I2 h) fun us s2 ⟨vs, H2, I3, r, q2⟩ => ⟨I3.kIn, ?_⟩) hst hpl
  exact run_fn (us := us) (vs := vs) (dvs := []) (ds := []) h6 (hr.mono hj) h5 .nil hx I3 r q2

/-! ## what lets nothing out is calm -/
section
variable {P : Program} {w : World} {K : PySem.W.Frag} {mg : Str → Option Value} {base : Heap} {k : Nat} {ps : List Str} {sp : Sp}
theorem fnOk_calm {f : Addr} {fd : FuncData} (F : FnOk P w K mg base (L2.CX P w) k f fd ps sp) : FnOk P w K mg base CX0 k f fd ps (fun vs H Q _ => sp vs H Q E0) := by
  refine ⟨fun vs H Q E h => F.len vs H Q E0 h, fun A outer s H args us vs Q E hr e0 hb r h => ?_⟩
  refine codeAny_mono (F.run A outer s H args us vs Q E0 hr e0 hb r h) fun r s' z => ?_
  match r, z with
  | .error e, z =>
    obtain ⟨_, _, _, _, _, _, _, _, _, _, _, _, z⟩ := z
    exact z.elim
  | .ok (.ret u), z => exact z
  | .ok .next, z => exact z
  | .ok .brk, z => exact z
  | .ok .cont, z => exact z
theorem FnAt.calm {x : Str} (F : FnAt P w K mg base (L2.CX P w) x k ps sp) : FnAt P w K mg base CX0 x k ps (fun vs H Q _ => sp vs H Q E0) := by
  obtain ⟨f, fd, h1, h2, h3, h4⟩ := F.ex
  exact ⟨f, fd, h1, h2, h3, fnOk_calm h4⟩
theorem MakAt.calm {x : Str} {C : Addr} (F : MakAt P w K mg base (L2.CX P w) x C k ps sp) : MakAt P w K mg base CX0 x C k ps (fun vs H Q _ => sp vs H Q E0) := by
  obtain ⟨f, fd, h1, h2, h3, h4⟩ := F.ex
  exact ⟨f, fd, h1, h2, h3, fnOk_calm h4⟩
end
theorem DispAt.calm {P : Program} {w : World} {K : PySem.W.Frag} {mg : Str → Option Value} {base : Heap} {k : Nat} {ps : List Str} {T : Addr → Prop} {m : Str} {sp : Addr → Sp} (F : DispAt P w K mg base (L2.CX P w) T m k ps sp) : DispAt P w K mg base CX0 T m k ps (fun C vs H Q _ => sp C vs H Q E0) :=
  ⟨fun C t => let ⟨f, fd, h1, h2, h3, h4⟩ := F.ex C t; ⟨f, fd, h1, h2, h3, fnOk_calm h4⟩⟩
theorem call_isStr {X : Cx} : CallR X (.builtin "isinstance") (rIsF "str" isStrV) :=
  call_isF (by decide +kernel) (fun _ => (by decide +kernel : kitB "bool" "str" = some false)) (fun _ => (by decide +kernel : kitB "int" "str" = some false)) fun _ => (by decide +kernel : kitB "str" "str" = some true)
/-! ## two lists, one by the other -/
inductive Two {α : Type} (R : V → α → Prop) : List V → List α → Prop
  | nil : Two R [] []
  | cons {v : V} {vs : List V} {c : α} {cs : List α} (h : R v c) (t : Two R vs cs) : Two R (v :: vs) (c :: cs)
section
variable {α : Type} {R S : V → α → Prop}
theorem Two.mono (k : ∀ v c, R v c → S v c) : ∀ {vs : List V} {cs : List α}, Two R vs cs → Two S vs cs
  | _, _, .nil => .nil
  | _, _, .cons h t => .cons (k _ _ h) (t.mono k)
theorem Two.length : ∀ {vs : List V} {cs : List α}, Two R vs cs → vs.length = cs.length
  | _, _, .nil => rfl
  | _, _, .cons _ t => by rw [List.length_cons, List.length_cons, t.length]
theorem Two.at : ∀ {vs : List V} {cs : List α} {i : Nat} {v : V}, Two R vs cs → vs[i]? = some v → ∃ c, cs[i]? = some c ∧ R v c
  | _, _, i, v, .nil, h => by simp at h
  | _, _, 0, v, .cons p t, h => by
    simp at h
    subst h
    exact ⟨_, rfl, p⟩
  | _, _, i + 1, v, .cons p t, h => by
    obtain ⟨c, h1, h2⟩ := Two.at (i := i) (v := v) t (by simpa using h)
    exact ⟨c, by simpa using h1, h2⟩
theorem Two.app : ∀ {vs us : List V} {cs ds : List α}, Two R vs cs → Two R us ds → Two R (vs ++ us) (cs ++ ds)
  | _, _, _, _, .nil, q => q
  | _, _, _, _, .cons p t, q => .cons p (t.app q)
theorem Two.take : ∀ {vs : List V} {cs : List α} (i : Nat), Two R vs cs → Two R (vs.take i) (cs.take i)
  | _, _, 0, _ => by rw [List.take_zero, List.take_zero]; exact .nil
  | _, _, _ + 1, .nil => .nil
  | _, _, i + 1, .cons p t => .cons p (t.take i)
theorem Two.drop : ∀ {vs : List V} {cs : List α} (i : Nat), Two R vs cs → Two R (vs.drop i) (cs.drop i)
  | _, _, 0, h => h
  | _, _, _ + 1, .nil => .nil
  | _, _, i + 1, .cons p t => t.drop i
theorem Two.one {v : V} {c : α} (h : R v c) : Two R [v] [c] := .cons h .nil
end
/-- a tuple: one that was made, or a given one -/
def Tp (K : PySem.W.Frag) (H : Hp) (a : Addr) (xs : List V) : Prop := H a = some (.tup xs) ∨ ∀ H', SqT K H' a xs
theorem Tp.seq {K : PySem.W.Frag} {H : Hp} {a : Addr} {xs : List V} (h : Tp K H a xs) : SqT K H a xs := by
  rcases h with h | h
  · exact SqT.of h
  · exact h H
theorem Tp.mono {T : Addr → Prop} {K : PySem.W.Frag} {H H' : Hp} {a : Addr} {xs : List V} (k : Imm T H H') (h : Tp K H a xs) : Tp K H' a xs := by
  rcases h with h | h
  · exact .inl (k _ _ h trivial)
  · exact .inr h
theorem Imm.less {T S : Addr → Prop} {H H' : Hp} (l : ∀ C, S C → T C) (k : Imm T H H') : Imm S H H' := fun b o e i => k b o e (by
  cases o <;> first | exact i | exact l _ i)
theorem op_inK {X : Cx} (K : PySem.W.Frag) (h : X.K = K) : OpR X (compareOp .In) (rIn K false) := h ▸ op_in_seq
theorem op_notInK {X : Cx} (K : PySem.W.Frag) (h : X.K = K) : OpR X (compareOp .NotIn) (rIn K true) := h ▸ op_notIn_seq
/-! ## if: the test's end is told once, for both suites -/
def tIfG (c : TT) (t u : TS) : TS := fun D σ H => ∃ R : Bool → Hp → Prop, c σ H R ∧ ∀ b H', R b H' → if b = true then t D σ H' else u D σ H'
theorem ps_ifG {X : Cx} {c : Expr} {a b : List Stmt} {tc : TT} {t u : TS} {pos : Pos} (hc : PT X c tc) (ha : PSs X a t) (hb : PSs X b u) : PS X (.If c a b pos) (tIfG tc t u) := by
  refine ⟨fun pins s σ H D I h => ?_⟩
  obtain ⟨R, h, k⟩ := h
  refine wpAny_If (thn (hc.run pins s σ H _ I h) fun d s1 ⟨H1, I1, q1⟩ => ?_)
  have k := k d H1 q1
  cases d with
  | true => exact ha.run pins s1 σ H1 D I1 k
  | false => exact hb.run pins s1 σ H1 D I1 k
theorem cutV_neg_to (l : List V) (n : Nat) (h1 : 1 ≤ n) (h2 : n ≤ l.length) : cutV l none (some (-(n : Int))) = l.take (l.length - n) := by
  unfold cutV
  rw [HT.sIx_none, List.drop_zero, Nat.sub_zero]
  congr 1
  show (if -(n : Int) < 0 then (-(n : Int) + (l.length : Int)).toNat else min (-(n : Int)).toNat l.length) = _
  rw [if_pos (by omega)]
  omega
theorem cutV_neg_from (l : List V) (n : Nat) (h1 : 1 ≤ n) (h2 : n ≤ l.length) : cutV l (some (-(n : Int))) none = l.drop (l.length - n) := by
  have e : HT.sIx l.length 0 (some (-(n : Int))) = l.length - n := by
    show (if -(n : Int) < 0 then (-(n : Int) + (l.length : Int)).toNat else min (-(n : Int)).toNat l.length) = _
    rw [if_pos (by omega)]
    omega
  unfold cutV
  rw [HT.sIx_none, e, List.take_of_length_le (by rw [List.length_drop]; omega)]
end Ru

set_option Elab.async false
set_option linter.all false
set_option maxRecDepth 100000
/-! len(set(xs)), xs a list or a tuple of texts, any of them twice -/
namespace Ru
open PySem PySem.Spec PyProof.Rows
/-- how many unlike ones stand among the first i -/
def cntS (xs : List Str) : Nat → Nat
  | 0 => 0
  | i + 1 => if (xs.take i).any (· == xs.getD i Str.empty) = true then cntS xs i else cntS xs i + 1
theorem cntS_le (xs : List Str) : ∀ i, cntS xs i ≤ i
  | 0 => Nat.le_refl _
  | i + 1 => by
    have := cntS_le xs i
    rw [cntS]
    split <;> omega
theorem cntS_take (xs : List Str) : ∀ i, i ≤ xs.length → (cntS xs i = i ↔ (xs.take i).Nodup)
  | 0, _ => by simp [cntS]
  | i + 1, h => by
    have ih := cntS_take xs i (by omega)
    have hl := cntS_le xs i
    have e1 : xs.getD i Str.empty = xs[i] := by rw [List.getD_eq_getElem?_getD, List.getElem?_eq_getElem (by omega)]; rfl
    have e2 : xs.take (i + 1) = xs.take i ++ [xs[i]] := by rw [List.take_add_one, List.getElem?_eq_getElem (by omega)]; rfl
    rw [cntS, e1, e2, List.nodup_append]
    by_cases hm : xs[i] ∈ xs.take i
    · have ha : ((xs.take i).any fun x => x == xs[i]) = true := List.any_eq_true.mpr ⟨_, hm, beq_self_eq_true _⟩
      rw [if_pos ha]
      constructor
      · intro q; omega
      · intro q; exact absurd rfl (q.2.2 _ hm _ (List.mem_singleton.mpr rfl))
    · have ha : ¬ ((xs.take i).any fun x => x == xs[i]) = true := fun q => by
        obtain ⟨y, hy, ey⟩ := List.any_eq_true.mp q
        rw [eq_of_beq ey] at hy
        exact hm hy
      rw [if_neg ha]
      constructor
      · intro q
        refine ⟨ih.mp (by omega), by simp, fun a ha b hb e => ?_⟩
        rw [List.mem_singleton.mp hb] at e
        exact hm (e ▸ ha)
      · intro q
        have := ih.mpr q.1
        omega
theorem cntS_all (xs : List Str) : cntS xs xs.length = xs.length ↔ xs.Nodup := by
  have := cntS_take xs xs.length (Nat.le_refl _)
  rwa [List.take_length] at this
section
variable {prog : Program} {w : World} {A : Around} {I : Addr} {fp wr : List Addr} {n : Nat} {P : Nat → Value → Prop} {St : Nat → Heap → Prop}
/-- the set at S bears the first i of xs -/
def BearsS (prog : Program) (w : World) (h : Heap) (S : Addr) (xs : List Str) (i : Nat) : Prop := h.SetOf (PySem.strKind prog w) S (fun z => (xs.take i).any (· == z)) (cntS xs i)
theorem BearsS.keep {h h' : Heap} {S : Addr} {xs : List Str} {i : Nat} (q : BearsS prog w h S xs i) (k : ∀ o, h.get? S = some o → h'.get? S = some o) : BearsS prog w h' S xs i := by
  obtain ⟨o, es, ep, t, ho, r⟩ := q
  exact ⟨o, es, ep, t, k o ho, r⟩
theorem any_snoc (l : List Str) (x z : Str) : (l ++ [x]).any (· == z) = (l.any (· == z) || decide (z = x)) := by
  rw [List.any_append]
  congr 1
  by_cases e : z = x
  · subst e; simp
  · rw [decide_eq_false e]
    simp only [List.any_cons, List.any_nil, Bool.or_false]
    exact beq_eq_false_iff_ne.mpr fun q => e q.symm
/-- the loop of set.update over n texts -/
theorem loopTexts (W : Walks prog w A.in1 I fp wr n P St) (S : Addr) (hSf : S ∉ fp) (xs : List Str) (hsz : xs.length = n) (hn1 : n + 1 < scanBound) (hval : ∀ i v, P i v → ∃ t, v = .str (xs.getD i Str.empty) t)
    {R : Result → Shared → Prop} : ∀ (k i : Nat) (s : Shared), i + k = n → St i s.heap → BearsS prog w s.heap S xs i →
      (∀ h' tk, BearsS prog w h' S xs n → (∀ b o, b ≠ S → b ∉ wr → s.heap.get? b = some o → h'.get? b = some o) → R (.ok (.ret .none)) { s with heap := h', toks := tk }) →
      codeAny (model prog w) A (.builtin "set.update.loop" ⟨[.ref S, .ref I], []⟩) R s
  | 0, i, s, hk, hst, hS, hR => by
    obtain rfl : i = n := by omega
    refine codeAny_builtin PyProof.Rows.F.entry_set_update_loop ?_
    rw [Around.under_plainId PyProof.Rows.F.plain_set_update_loop _]
    show wpAny _ A.in1 (pyNext (.ref I) >>= _) _ _ s
    refine wpAny_bind (W.done s _ _ hst fun h' tk hm => ?_)
    show wpAny _ A.in1 (ret Value.none) _ _ _
    exact wpAny_pure (hR h' tk (hS.keep fun o e => hm S o (fun q => hSf (W.sub _ q)) e) fun b o _ hb e => hm b o hb e)
  | k + 1, i, s, hk, hst, hS, hR => by
    have hlt : i < xs.length := by omega
    refine codeAny_builtin PyProof.Rows.F.entry_set_update_loop ?_
    rw [Around.under_plainId PyProof.Rows.F.plain_set_update_loop _]
    show wpAny _ A.in1 (pyNext (.ref I) >>= _) _ _ s
    refine wpAny_bind (W.item i s _ _ (by omega) hst fun v h1 tk1 hP st1 hm => ?_)
    obtain ⟨t, rfl⟩ := hval i v hP
    have hS1 : BearsS prog w h1 S xs i := hS.keep fun o e => hm S o (fun q => hSf (W.sub _ q)) e
    show wpAny _ A.in1 (holding [Value.str (xs.getD i Str.empty) t] (setAdd S (.str (xs.getD i Str.empty) t)) >>= _) _ _ _
    refine wpAny_bind (wpAny_holding ?_)
    unfold setAdd
    refine wpAny_holding (wpAny_bind ((PySem.strKind prog w).pyHash (k := xs.getD i Str.empty) (PySem.strKind_is _ _ _ _) ?_))
    have hc := cntS_le xs i
    refine wpAny_setAddHashed_of (knd := PySem.strKind prog w) (PySem.strKind_is _ _ _ _) rfl hS1 (by unfold scanBound at hn1 ⊢; omega) fun h2 sb new => ?_
    have e1 : xs.take (i + 1) = xs.take i ++ [xs.getD i Str.empty] := by
      rw [List.take_add_one, List.getD_eq_getElem?_getD, List.getElem?_eq_getElem hlt]
      rfl
    have hS2 : BearsS prog w h2 S xs (i + 1) := by
      refine PyProof.Rows.SetOf_congr new (fun z => ?_) ?_
      · rw [e1, any_snoc]
      · rw [cntS]
    refine wpAny_pure ⟨plainId_quiet PyProof.Rows.F.plain_set_update_loop _, loopTexts W S hSf xs hsz hn1 hval k (i + 1) _ (by omega) (W.frame _ h1 _ st1 fun b hb o e => ?_) hS2 fun h3 tk3 hS3 hm3 => ?_⟩
    · exact (sb.2 b fun q => hSf (q ▸ hb)).trans e
    · exact hR h3 tk3 hS3 fun b o n1 n2 e => hm3 b o n1 n2 ((sb.2 b n1).trans (hm b o n2 e))
end
section
variable {prog : Program} {w : World} {A : Around} {E : Value → Shared → Prop} {s : Shared}
set_option maxHeartbeats 3200000 in
/-- set(xs), xs the list or the tuple at l -/
theorem call_setTexts {l : Addr} {items : Array Value} {xs : List Str} {Q : Value → Shared → Prop} (hh : A.handled = none) (hl : s.heap.IsList l items ∨ s.heap.IsTuple l items) (hi : PyProof.Rows.StrsAre items.toList xs) (hn1 : xs.length + 1 < scanBound)
    (h : ∀ (h' : Heap) (tk : Nat), BearsS prog w h' s.heap.objs.size xs xs.length → (∀ b o, b < s.heap.objs.size → s.heap.get? b = some o → h'.get? b = some o) → Q (.ref s.heap.objs.size) { s with heap := h', toks := tk }) :
    wpAny (model prog w) A (call (.type "set") [.ref l]) Q E s := by
  have hlen : xs.length = items.size := by rw [← PyProof.Rows.StrsAre.len_eq hi, Array.length_toList]
  have hval : ∀ (i : Nat) (v : Value), items[i]? = some v → ∃ t, v = .str (xs.getD i Str.empty) t := fun i v hv => SS.strs_at hi i v (by rw [Array.getElem?_toList]; exact hv)
  obtain ⟨c, tl, hmro⟩ := PySem.F.called_set.mro
  have hmade := PySem.F.called_set.made
  have hsub := PySem.F.called_set.sub
  refine wpAny_call (codeAny_of_tree ?_)
  show wpAny _ _ (callAny (.type "set") _) _ _ _
  refine wpAny_pure ⟨Code.quiet_builtin _ (by decide +kernel), codeAny_builtin PySem.F.entry_type_call ?_⟩
  rw [Around.under_plain (weight_type_call_type "set" [.ref l] []) rfl]
  have h1 := PySem.F.called_set.notType
  have h2 := PySem.F.called_set.canCreate
  have hct := PySem.F.typeCall_set_1 (.ref l)
  repeat (any_goals (first | assumption | wp_step))
  refine codeAny_mono (code_set_new_1 (.ref l) (E := E) (Q₁ := fun obj s₁ => ∃ led : Bool, obj = .ref s.heap.objs.size ∧ s₁ = { s with heap := s.heap.push { cls := .type "set", dict := none, data := .set #[] 0 (.fresh 0 0 led) } }) fun led => ⟨led, rfl, rfl⟩) fun r s₁ hr => ?_
  match r, hr with
  | .error e, hr => exact hr
  | .ok .next, hr => exact hr.elim
  | .ok .brk, hr => exact hr.elim
  | .ok .cont, hr => exact hr.elim
  | .ok (.ret obj), hr =>
    obtain ⟨led, rfl, rfl⟩ := hr
    have hS : (s.heap.push { cls := .type "set", dict := none, data := .set #[] 0 (.fresh 0 0 led) }).get? s.heap.objs.size = some { cls := .type "set", dict := none, data := .set #[] 0 (.fresh 0 0 led) } := Heap.get?_push_size _ rfl
    generalize eS : ({ cls := .type "set", dict := none, data := .set #[] 0 (.fresh 0 0 led) } : Obj) = oS at hS ⊢
    have hT : Shared.TypeIs { s with heap := s.heap.push oS } (.ref s.heap.objs.size) "set" := ⟨_, hS, by rw [← eS]⟩
    have hli := PySem.F.called_set.init.lookup
    have hbi := PySem.F.called_set.init.bind (.ref s.heap.objs.size)
    have hh3 : A.in1.in1.in1.handled = none := by simp [hh]
    repeat (any_goals (first | assumption | wp_step))
    refine codeAny_mono (codeAny_call_builtin (R := wants (fun r s₂ => r = .none ∧ ∃ h' tk, s₂ = { s with heap := h', toks := tk } ∧ BearsS prog w h' s.heap.objs.size xs xs.length ∧
        (∀ b o, b < s.heap.objs.size → s.heap.get? b = some o → h'.get? b = some o)) E) PySem.F.called_set.init.plain PySem.F.entry_set_init (check_set_init_1 hT ?_)) fun r₂ s₂ hr₂ => ?_
    · have fin : ∀ (oi : Obj) {St : Nat → Heap → Prop}, l < s.heap.objs.size → Walks prog w A.in1.in1.in1 (s.heap.push oS).objs.size [(s.heap.push oS).objs.size, l] [(s.heap.push oS).objs.size] items.size (fun i v => items[i]? = some v) St →
          St 0 ((s.heap.push oS).push oi) → ∀ R : Result → Shared → Prop, (∀ h' tk, BearsS prog w h' s.heap.objs.size xs xs.length → (∀ b o, b < s.heap.objs.size → s.heap.get? b = some o → h'.get? b = some o) → R (.ok (.ret .none)) { s with heap := h', toks := tk }) →
          codeAny (model prog w) A.in1.in1 (.builtin "set.update.loop" ⟨[.ref s.heap.objs.size, .ref (s.heap.push oS).objs.size], []⟩) R { s with heap := (s.heap.push oS).push oi } := by
        intro oi St hlS W st R hR
        have hz : (s.heap.push oS).objs.size = s.heap.objs.size + 1 := Heap.size_push ..
        have hget : ((s.heap.push oS).push oi).get? s.heap.objs.size = some oS := Heap.get?_push_of_some _ hS
        have nS : s.heap.objs.size ∉ [(s.heap.push oS).objs.size, l] := by
          rw [hz]
          simp only [List.mem_cons, List.not_mem_nil, or_false, not_or]
          exact ⟨Nat.ne_of_lt (Nat.lt_succ_self _), Nat.ne_of_gt hlS⟩
        refine loopTexts W s.heap.objs.size nS xs hlen (by rw [← hlen]; exact hn1) hval items.size 0 _ (by omega) st ?_ fun h' tk hb hk => ?_
        · subst eS
          exact PyProof.Rows.SetOf_congr ((PyProof.Rows.setObjOf_fresh (knd := PySem.strKind prog w) led).setOf hget (by unfold scanBound; omega)) (fun _ => rfl) rfl
        · rw [← hlen] at hb
          refine hR h' tk hb fun b o hlt e => hk b o (Nat.ne_of_lt hlt) (by rw [hz]; simp only [List.mem_cons, List.not_mem_nil, or_false]; exact Nat.ne_of_lt (Nat.lt_succ_of_lt hlt)) (Heap.get?_push_of_some _ (Heap.get?_push_of_some _ e))
      have hne1 : ∀ {c : Addr}, c < s.heap.objs.size → c ≠ (s.heap.push oS).objs.size := fun hc => by
        rw [Heap.size_push]; exact Nat.ne_of_lt (Nat.lt_succ_of_lt hc)
      rcases hl with hl | hl
      · obtain ⟨ol, hol, hcl, nl, hdl⟩ := hl
        obtain ⟨ocls, odict, odata, oslots⟩ := ol
        simp only at hcl hdl
        subst hcl hdl
        have hol' := Heap.get?_push_of_some oS hol
        have hl1 : (s.heap.push oS).IsList l items := ⟨_, hol', rfl, nl, rfl⟩
        have hlS : l < s.heap.objs.size := Heap.lt_size hol
        have k1 := PySem.F.sub_list_set
        have k2 := PySem.F.sub_list_frozenset
        have k3 : (Value.type "list" == Value.type "dict") = false := by decide
        subst eS
        unfold Builtin.«set.__init__» noKeywords Builtin.Frozenset.updateFrom
        generalize hPI : pyIter = PI
        wp_walk
        subst hPI
        refine wpAny_pyIter_list hl1 ?_
        refine wpAny_bind (wpAny_runValue ?_)
        refine fin _ hlS (Walks.list hh3 _ l (hne1 hlS) items) ⟨⟨_, Heap.get?_push_size _ rfl, rfl, rfl⟩, (hl1.push _)⟩ _ fun h' tk hb hk => ?_
        show wpAny _ _ _ _ _ _
        refine wpAny_pure ?_
        show wpAny _ _ (ret Value.none) _ _ _
        exact wpAny_pure ⟨rfl, h', tk, rfl, hb, hk⟩
      · obtain ⟨ol, hol, hcl, nl, hdl⟩ := hl
        obtain ⟨ocls, odict, odata, oslots⟩ := ol
        simp only at hcl hdl
        subst hcl hdl
        have hol' := Heap.get?_push_of_some oS hol
        have hl1 : (s.heap.push oS).IsTuple l items := ⟨_, hol', rfl, nl, rfl⟩
        have hlS : l < s.heap.objs.size := Heap.lt_size hol
        have k1 := PySem.F.sub_tuple_set
        have k2 := PySem.F.sub_tuple_frozenset
        have k3 : (Value.type "tuple" == Value.type "dict") = false := by decide
        subst eS
        unfold Builtin.«set.__init__» noKeywords Builtin.Frozenset.updateFrom
        generalize hPI : pyIter = PI
        wp_walk
        subst hPI
        refine wpAny_pyIter_tuple hl1 ?_
        refine wpAny_bind (wpAny_runValue ?_)
        refine fin _ hlS (Walks.tuple hh3 _ l (hne1 hlS) items) ⟨⟨_, Heap.get?_push_size _ rfl, rfl, rfl⟩, (hl1.push _)⟩ _ fun h' tk hb hk => ?_
        show wpAny _ _ _ _ _ _
        refine wpAny_pure ?_
        show wpAny _ _ (ret Value.none) _ _ _
        exact wpAny_pure ⟨rfl, h', tk, rfl, hb, hk⟩
    · match r₂, hr₂ with
      | .error e, hr₂ => exact hr₂
      | .ok .next, hr₂ => exact hr₂.elim
      | .ok .brk, hr₂ => exact hr₂.elim
      | .ok .cont, hr₂ => exact hr₂.elim
      | .ok (.ret r), hr₂ =>
        obtain ⟨rfl, h', tk, rfl, hS', hk'⟩ := hr₂
        repeat (any_goals (first | assumption | wp_step))
        exact h _ _ hS' hk'
end
/-! ### len(set(xs)) -/
def tLenSetS (K : PySem.W.Frag) (ta : L2.TE) : L2.TE := fun σ H Q => ta σ H fun x H1 => ∃ l, ∃ xs : List Str, x = .ref l ∧ (L2.SqL K H1 l (xs.map L2.V.str) ∨ L2.SqT K H1 l (xs.map L2.V.str)) ∧ xs.length ≤ 1000 ∧ ∀ n : Nat, n ≤ xs.length → (n = xs.length ↔ xs.Nodup) → Q (.int n) H1
open L2 in
theorem pe_lenSetS {X : Cx} {a : Expr} {ta : TE} {p p2 q pos : Pos} (hc : X.calm = true) (hg : Gl X "len") (hm : X.mg "len" = none) (hg2 : Gl X "set") (hm2 : X.mg "set" = none) (ha : PE X a ta)
    (na : starEach [a] X.env = (false, eval a X.env) :: starEach [] X.env := by rfl) : PE X (.Call (.Name "len" p) [.Call (.Name "set" p2) [a] [] q] [] pos) (tLenSetS X.K ta) := by
  refine ⟨fun pins s σ H Q I h => ?_⟩
  refine Call_ (ld_blt I hg hm boot_len ?_)
  refine PyProof.Rows.callWith_builtin1 (PyProof.Rows.args_cons ?_ rfl) rfl rfl
  refine Call_ (ld_blt I hg2 hm2 boot_set ?_)
  refine PyProof.Rows.callWith_type1 (PyProof.Rows.args_cons (thn (ha.run pins s σ H _ I h) fun v s1 ⟨x, H1, I1, r1, q1⟩ => PyProof.Rows.args_nil ?_) na) na rfl
  obtain ⟨l, xs, rfl, hq, hn, q1⟩ := q1
  cases r1
  have fin : ∀ (h' : Heap) (tk : Nat), BearsS X.prog X.w h' s1.heap.objs.size xs xs.length → (∀ b o, b < s1.heap.objs.size → s1.heap.get? b = some o → h'.get? b = some o) →
      wpAny (model X.prog X.w) X.A (spliced (backTo pos (starEach [] X.env))) (fun vs s₂ => wpAny (model X.prog X.w) X.A (call (.builtin "len") (Value.ref s1.heap.objs.size :: vs)) (EP X pins σ Q) X.xe s₂) X.xe { s1 with heap := h', toks := tk } := by
    intro h' tk hS hk
    refine PyProof.Rows.args_nil ?_
    obtain ⟨o, es, ep, t, ho, hex, hd, _, _, _, hf, hcn⟩ := hS
    have I2 : Inv X pins σ H1 { s1 with heap := h', toks := tk } := I1.kept fun b o e => hk b o (Heap.lt_size e) e
    have hle := cntS_le xs xs.length
    refine call_len_set ho hex hd hf (by rw [hcn]; omega) ⟨.int (cntS xs xs.length : Nat), H1, I2.tok _, ⟨_, by rw [hcn]⟩, q1 _ hle (cntS_all xs)⟩
  have hb : xs.length + 1 < scanBound := by unfold scanBound; omega
  rcases hq with hq | hq
  · obtain ⟨its, r, pl, hz⟩ := I1.list hq
    exact call_setTexts (I1.ok.hd hc) (.inl pl.isList) (by simpa using strsAre_of r) hb fin
  · obtain ⟨its, r, pl, hz⟩ := I1.tuple hq
    exact call_setTexts (I1.ok.hd hc) (.inr pl) (by simpa using strsAre_of r) hb fin
end Ru

set_option Elab.async false
set_option linter.all false
set_option maxRecDepth 100000
set_option maxHeartbeats 2000000
/-! zip of a tuple and a list: by what each iterator's next does, whichever it is -/
namespace Ru
open PySem PySem.Spec PyProof.Rows L2
/-- the iterator at i over ys, which stand at l; P: it stands at a place -/
structure Dr (prog : Program) (w : World) (i l : Addr) (ys : Array Value) (P : Heap → Nat → Prop) : Prop where
  keep : ∀ {e : Addr} {h h' : Heap} {k : Nat}, P h k → Heap.ExtBut e h h' → i ≠ e → l ≠ e → P h' k
  item : ∀ {A : Around} {E : Value → Shared → Prop} {s : Shared} {k : Nat} {y : Value} {Q : Value → Shared → Prop}, P s.heap k → ys[k]? = some y →
    (∀ h', P h' (k + 1) → Heap.SameBut i s.heap h' → Q y { s with heap := h' }) → wpAny (model prog w) A (Builtin.SmallTypes.nextOf (.ref i)) Q E s
  stop : ∀ {A : Around} {E : Value → Shared → Prop} {s : Shared} {k : Nat} {Q : Value → Shared → Prop}, A.handled = none → P s.heap k → ys[k]? = none →
    (∀ h' e, Heap.ExtBut i s.heap h' → (∃ o, h'.get? e = some o ∧ o.cls = .type "StopIteration") → E (.ref e) { s with heap := h' }) → wpAny (model prog w) A (Builtin.SmallTypes.nextOf (.ref i)) Q E s
theorem dr_tup {prog : Program} {w : World} {i l : Addr} {ys : Array Value} (n : l ≠ i) : Dr prog w i l ys fun h k => h.IsTupleIter i l k ∧ h.IsTuple l ys :=
  ⟨fun p x n1 n2 => ⟨p.1.extBut x n1, p.2.extBut x n2⟩, fun p hy q => RZ.nextOf_tuple_item p.1 p.2 hy fun h' a b => q h' ⟨a, p.2.extBut b.extBut n⟩ b, fun hh p hy q => RZ.nextOf_tuple_end hh p.1 p.2 hy q⟩
theorem dr_lst {prog : Program} {w : World} {i l : Addr} {ys : Array Value} (n : l ≠ i) : Dr prog w i l ys fun h k => h.IsListIter i l k ∧ h.IsList l ys :=
  ⟨fun p x n1 n2 => ⟨p.1.extBut x n1, p.2.extBut x n2⟩, fun p hy q => wpAny_nextOf_list_item p.1 p.2 hy fun h' a b => q h' ⟨a, p.2.extBut b.extBut n⟩ b, fun hh p hy q => wpAny_nextOf_list_end hh p.1 p.2 hy q⟩
section
variable {prog : Program} {w : World} {A : Around} {E : Value → Shared → Prop} {s : Shared} {z TI TO i1 i2 l1 l2 : Addr} {k1 k2 : Nat} {xs ys : Array Value} {x y a b : Value} {P1 P2 : Heap → Nat → Prop}
/-- the zip at z, its parts, as they stand -/
structure Zst (h : Heap) (z TI TO i1 i2 : Addr) (a b : Value) (f : Value) : Prop where
  z : IsZip h z TI TO f
  ti : IsPair h TI (.ref i1) (.ref i2)
  to : IsPair h TO a b
theorem zipD_item {Q : Value → Shared → Prop} (d1 : Dr prog w i1 l1 xs P1) (d2 : Dr prog w i2 l2 ys P2) (D : ZipApart z TI TO i1 i2 l1 l2) (g : Zst s.heap z TI TO i1 i2 a b .none) (p1 : P1 s.heap k1) (p2 : P2 s.heap k2) (hx : xs[k1]? = some x) (hy : ys[k2]? = some y)
    (q : ∀ h', Zst h' z TI TO i1 i2 x y (rawInt s.heap.objs.size) → P1 h' (k1 + 1) → P2 h' (k2 + 1) → IsPair h' s.heap.objs.size x y → (∀ c o, c ≠ z → c ≠ TO → c ≠ i1 → c ≠ i2 → s.heap.get? c = some o → h'.get? c = some o) → Q (.ref s.heap.objs.size) { s with heap := h' })
    (hl1 : l1 < s.heap.objs.size) (hl2 : l2 < s.heap.objs.size) (hi1 : i1 < s.heap.objs.size) (hi2 : i2 < s.heap.objs.size) :
    wpAny (model prog w) A (Builtin.«zip.__next__» ⟨[.ref z], []⟩) (fun fin s' => ∃ v, fin = .done (.ret v) ∧ Q v s') E s := by
  obtain ⟨gz, gi, go⟩ := g
  show wpAny _ _ (field (.ref z) 2 >>= fun _ => _) _ _ s
  refine wpAny_bind (wpAny_field gz rfl (x := .bool false) rfl (wpAny_bind (wpAny_field gz rfl (x := .ref TI) rfl (wpAny_bind (wpAny_seqItems gi rfl (wpAny_bind ?_))))))
  unfold Builtin.SmallTypes.ownedTupleIsFree
  refine wpAny_bind (wpAny_field gz rfl (x := .none) rfl (wpAny_pure ?_))
  rw [if_pos rfl]
  refine wpAny_bind (wpAny_rule (wpAny_bind (wpAny_field gz rfl (x := .ref TO) rfl (wpAny_bind (wpAny_setField_rec gz (by simp) fun ha za sa => ?_)))))
  have za : IsZip ha z TI TO .ellipsis := za
  have p1a := d1.keep p1 sa.extBut D.i1z D.l1z
  have p2a := d2.keep p2 sa.extBut D.i2z D.l2z
  refine wpAny_bind ?_
  simp only [List.zipIdx_cons, List.zipIdx_nil, List.forIn_cons, List.forIn_nil]
  -- the first one
  refine wpAny_bind (wpAny_bind (wpAny_onRaise ?_))
  show wpAny _ _ (Builtin.SmallTypes.nextOf (.ref i1) >>= fun _ => _) _ _ { s with heap := ha }
  refine wpAny_bind (d1.item (s := { s with heap := ha }) p1a hx fun hb p1b sb => wpAny_pure ?_)
  have ob : IsPair hb TO a b := sb.extBut _ _ D.TOi1 (sa.extBut _ _ D.TOz go)
  refine wpAny_bind (wpAny_seqItems ob rfl (wpAny_bind (wpAny_updateSeq_pair ob fun hc oc sc => wpAny_bind (wpAny_letGo (wpAny_pure ?_)))))
  have oc : IsPair hc TO x b := oc
  have p2c := d2.keep (d2.keep p2a sb.extBut D.i12.symm D.l2i1) sc.extBut D.TOi2.symm D.l2TO
  have p1c := d1.keep p1b sc.extBut D.TOi1.symm D.l1TO
  -- the second one
  refine wpAny_bind (wpAny_bind (wpAny_onRaise ?_))
  show wpAny _ _ (Builtin.SmallTypes.nextOf (.ref i2) >>= fun _ => _) _ _ { s with heap := hc }
  refine wpAny_bind (d2.item (s := { s with heap := hc }) p2c hy fun hd p2d sd => wpAny_pure ?_)
  have od : IsPair hd TO x b := sd.extBut _ _ D.TOi2 oc
  refine wpAny_bind (wpAny_seqItems od rfl (wpAny_bind (wpAny_updateSeq_pair od fun he oe se => wpAny_bind (wpAny_letGo (wpAny_pure (wpAny_pure ?_))))))
  have oe : IsPair he TO x y := oe
  have p1e := d1.keep (d1.keep p1c sd.extBut D.i12 D.l1i2) se.extBut D.TOi1.symm D.l1TO
  have p2e := d2.keep p2d se.extBut D.TOi2.symm D.l2TO
  have ze : IsZip he z TI TO .ellipsis := se.extBut _ _ D.TOz.symm (sd.extBut _ _ D.i2z.symm (sc.extBut _ _ D.TOz.symm (sb.extBut _ _ D.i1z.symm za)))
  have ke : ∀ c o, c ≠ z → c ≠ TO → c ≠ i1 → c ≠ i2 → s.heap.get? c = some o → he.get? c = some o := fun c o n1 n2 n3 n4 e => se.extBut _ _ n2 (sd.extBut _ _ n4 (sc.extBut _ _ n2 (sb.extBut _ _ n3 (sa.extBut _ _ n1 e))))
  have size : he.objs.size = s.heap.objs.size := by rw [se.1, sd.1, sc.1, sb.1, sa.1]
  refine wpAny_bind (wpAny_seqItems oe rfl (wpAny_bind (wpAny_newTuple ?_)))
  show wpAny _ _ (Builtin.SmallTypes.ownedTupleHandOut (.ref z) (.ref he.objs.size) >>= fun _ => _) _ _ _
  refine wpAny_bind ?_
  unfold Builtin.SmallTypes.ownedTupleHandOut
  have zf : IsZip (he.push { cls := .type "tuple", data := .seq #[x, y] }) z TI TO .ellipsis := Heap.get?_push_of_some _ ze
  refine wpAny_bind (wpAny_setField_rec zf (by simp) fun hg zg sg => ?_)
  have zg : IsZip hg z TI TO (rawInt he.objs.size) := zg
  refine wpAny_setField_rec zg (by simp) fun hk zk sk => wpAny_pure ⟨_, rfl, ?_⟩
  have zk : IsZip hk z TI TO (rawInt he.objs.size) := zk
  have up : ∀ c o, c ≠ z → he.get? c = some o → hk.get? c = some o := fun c o n e => sk.extBut _ _ n (sg.extBut _ _ n (Heap.get?_push_of_some _ e))
  have zlt : z < he.objs.size := Heap.lt_size ze
  have tk : IsPair hk he.objs.size x y := sk.extBut _ _ (Nat.ne_of_gt zlt) (sg.extBut _ _ (Nat.ne_of_gt zlt) (Heap.get?_push_size _ rfl))
  have ext : Heap.ExtBut z he hk := fun c o n e => up c o n e
  have ti : IsPair hk TI (.ref i1) (.ref i2) := up _ _ D.TIz (ke _ _ D.TIz D.TITO D.TIi1 D.TIi2 gi)
  rw [size] at zk tk
  show Q (.ref he.objs.size) _
  rw [size]
  exact q hk ⟨zk, ti, up _ _ D.TOz oe⟩ (d1.keep p1e ext D.i1z D.l1z) (d2.keep p2e ext D.i2z D.l2z) tk fun c o n1 n2 n3 n4 e => up c o n1 (ke c o n1 n2 n3 n4 e)
theorem zipD_stop {Q : PySem.Fin → Shared → Prop} (hh : A.handled = none) (d1 : Dr prog w i1 l1 xs P1) (d2 : Dr prog w i2 l2 ys P2) (D : ZipApart z TI TO i1 i2 l1 l2) (g : Zst s.heap z TI TO i1 i2 a b .none) (p1 : P1 s.heap k1) (p2 : P2 s.heap k2) (hend : xs[k1]? = none ∨ ys[k2]? = none)
    (q : ∀ h' e, (∀ c o, c ≠ z → c ≠ TO → c ≠ i1 → c ≠ i2 → s.heap.get? c = some o → h'.get? c = some o) → (∃ o, h'.get? e = some o ∧ o.cls = .type "StopIteration") → E (.ref e) { s with heap := h' }) :
    wpAny (model prog w) A (Builtin.«zip.__next__» ⟨[.ref z], []⟩) Q E s := by
  obtain ⟨gz, gi, go⟩ := g
  show wpAny _ _ (field (.ref z) 2 >>= fun _ => _) _ _ s
  refine wpAny_bind (wpAny_field gz rfl (x := .bool false) rfl (wpAny_bind (wpAny_field gz rfl (x := .ref TI) rfl (wpAny_bind (wpAny_seqItems gi rfl (wpAny_bind ?_))))))
  unfold Builtin.SmallTypes.ownedTupleIsFree
  refine wpAny_bind (wpAny_field gz rfl (x := .none) rfl (wpAny_pure ?_))
  rw [if_pos rfl]
  refine wpAny_bind (wpAny_rule (wpAny_bind (wpAny_field gz rfl (x := .ref TO) rfl (wpAny_bind (wpAny_setField_rec gz (by simp) fun ha za sa => ?_)))))
  have za : IsZip ha z TI TO .ellipsis := za
  have p1a := d1.keep p1 sa.extBut D.i1z D.l1z
  have p2a := d2.keep p2 sa.extBut D.i2z D.l2z
  -- the zip is free again, and what next raised goes out
  have out : ∀ {h : Heap} {e : Addr} {R : Unit → Shared → Prop}, IsZip h z TI TO .ellipsis → (∃ o, h.get? e = some o ∧ o.cls = .type "StopIteration") → (∀ c o, c ≠ z → c ≠ TO → c ≠ i1 → c ≠ i2 → s.heap.get? c = some o → h.get? c = some o) →
      (∀ h', R () { s with heap := h' } → True) → (∀ h', (∀ c o, c ≠ z → c ≠ TO → c ≠ i1 → c ≠ i2 → s.heap.get? c = some o → h'.get? c = some o) → (∃ o, h'.get? e = some o ∧ o.cls = .type "StopIteration") → R () { s with heap := h' }) →
      wpAny (model prog w) A (setField (.ref z) 0 .none) R E { s with heap := h } := by
    intro h e R gz ⟨oe, he, hc⟩ kp _ r
    have nz : e ≠ z := fun q => by
      rw [q, gz] at he
      cases he
      exact absurd hc (by simp)
    exact wpAny_setField_rec gz (by simp) fun h' _ sh => r h' (fun c o n1 n2 n3 n4 u => sh.extBut _ _ n1 (kp c o n1 n2 n3 n4 u)) ⟨oe, sh.extBut _ _ nz he, hc⟩
  refine wpAny_bind ?_
  simp only [List.zipIdx_cons, List.zipIdx_nil, List.forIn_cons, List.forIn_nil]
  refine wpAny_bind (wpAny_bind (wpAny_onRaise ?_))
  show wpAny _ _ (Builtin.SmallTypes.nextOf (.ref i1) >>= fun _ => _) _ _ { s with heap := ha }
  cases hx : xs[k1]? with
  | none =>
    refine wpAny_bind (d1.stop (s := { s with heap := ha }) hh p1a hx fun hb e sb st => ?_)
    exact out (sb _ _ D.i1z.symm za) st (fun c o n1 _ n3 _ u => sb _ _ n3 (sa.extBut _ _ n1 u)) (fun _ _ => trivial) fun h' kp st' => q h' e kp st'
  | some x =>
    have hy : ys[k2]? = none := hend.resolve_left fun u => by rw [hx] at u; cases u
    refine wpAny_bind (d1.item (s := { s with heap := ha }) p1a hx fun hb p1b sb => wpAny_pure ?_)
    have ob : IsPair hb TO a b := sb.extBut _ _ D.TOi1 (sa.extBut _ _ D.TOz go)
    refine wpAny_bind (wpAny_seqItems ob rfl (wpAny_bind (wpAny_updateSeq_pair ob fun hc oc sc => wpAny_bind (wpAny_letGo (wpAny_pure ?_)))))
    have p2c := d2.keep (d2.keep p2a sb.extBut D.i12.symm D.l2i1) sc.extBut D.TOi2.symm D.l2TO
    refine wpAny_bind (wpAny_bind (wpAny_onRaise ?_))
    show wpAny _ _ (Builtin.SmallTypes.nextOf (.ref i2) >>= fun _ => _) _ _ { s with heap := hc }
    refine wpAny_bind (d2.stop (s := { s with heap := hc }) hh p2c hy fun hd e sd st => ?_)
    exact out (sd _ _ D.i2z.symm (sc.extBut _ _ D.TOz.symm (sb.extBut _ _ D.i1z.symm za))) st (fun c o n1 n2 n3 n4 u => sd _ _ n4 (sc.extBut _ _ n2 (sb.extBut _ _ n3 (sa.extBut _ _ n1 u)))) (fun _ _ => trivial) fun h' kp st' => q h' e kp st'
theorem pyNext_zipD_item {Q : Option Value → Shared → Prop} (d1 : Dr prog w i1 l1 xs P1) (d2 : Dr prog w i2 l2 ys P2) (D : ZipApart z TI TO i1 i2 l1 l2) (g : Zst s.heap z TI TO i1 i2 a b .none) (p1 : P1 s.heap k1) (p2 : P2 s.heap k2) (hx : xs[k1]? = some x) (hy : ys[k2]? = some y)
    (q : ∀ h', Zst h' z TI TO i1 i2 x y (rawInt s.heap.objs.size) → P1 h' (k1 + 1) → P2 h' (k2 + 1) → IsPair h' s.heap.objs.size x y → (∀ c o, c ≠ z → c ≠ TO → c ≠ i1 → c ≠ i2 → s.heap.get? c = some o → h'.get? c = some o) → Q (some (.ref s.heap.objs.size)) { s with heap := h' })
    (hl1 : l1 < s.heap.objs.size) (hl2 : l2 < s.heap.objs.size) (hi1 : i1 < s.heap.objs.size) (hi2 : i2 < s.heap.objs.size) : wpAny (model prog w) A (pyNext (.ref z)) Q E s := by
  have ty : s.TypeIs (.ref z) "zip" := ⟨_, g.z, rfl⟩
  unfold pyNext
  refine wpAny_bind (wpAny_attempt (wpAny_callSpecial?_slot (name := Str.ofString "__next__") ty PySem.F.slot_zip_next (wpAny_call_entry PySem.F.slot_zip_next ty PySem.F.entry_zip_next ?_ (PySem.F.args_zip_next_1 _))))
  exact zipD_item d1 d2 D g p1 p2 hx hy (fun h' a1 a2 a3 a4 a5 => wpAny_pure (q h' a1 a2 a3 a4 a5)) hl1 hl2 hi1 hi2
theorem pyNext_zipD_stop {Q : Option Value → Shared → Prop} (hh : A.handled = none) (d1 : Dr prog w i1 l1 xs P1) (d2 : Dr prog w i2 l2 ys P2) (D : ZipApart z TI TO i1 i2 l1 l2) (g : Zst s.heap z TI TO i1 i2 a b .none) (p1 : P1 s.heap k1) (p2 : P2 s.heap k2) (hend : xs[k1]? = none ∨ ys[k2]? = none)
    (q : ∀ h', (∀ c o, c ≠ z → c ≠ TO → c ≠ i1 → c ≠ i2 → s.heap.get? c = some o → h'.get? c = some o) → Q none { s with heap := h' }) : wpAny (model prog w) A (pyNext (.ref z)) Q E s := by
  have ty : s.TypeIs (.ref z) "zip" := ⟨_, g.z, rfl⟩
  unfold pyNext
  refine wpAny_bind (wpAny_attempt (wpAny_callSpecial?_slot (name := Str.ofString "__next__") ty PySem.F.slot_zip_next (wpAny_call_entry PySem.F.slot_zip_next ty PySem.F.entry_zip_next (zipD_stop hh d1 d2 D g p1 p2 hend fun h' e kp ⟨o, ho, hc⟩ => ?_) (PySem.F.args_zip_next_1 _))))
  exact wpAny_bind (wpAny_isInstance (T := "StopIteration") (b := true) ⟨o, ho, hc⟩ isSubtype_stop (wpAny_pure (q _ kp)))
end
/-! ### zip of a tuple and a list, made -/
abbrev zH1 (h : Heap) (l : Addr) : Heap := h.push { cls := .type "tuple_iterator", data := .fields #[.ref l, .int 0 0] }
abbrev zH2 (h : Heap) (l m : Addr) : Heap := (zH1 h l).push { cls := .type "list_iterator", data := .fields #[.ref m, .int 0 0] }
abbrev zH3 (h : Heap) (l m : Addr) : Heap := (zH2 h l m).push { cls := .type "tuple", data := .seq #[.ref h.objs.size, .ref (zH1 h l).objs.size] }
abbrev zH4 (h : Heap) (l m : Addr) : Heap := (zH3 h l m).push { cls := .type "tuple", data := .seq #[.none, .none] }
abbrev zH5 (h : Heap) (l m : Addr) : Heap := (zH4 h l m).push { cls := .type "zip", data := .fields #[.none, .bool false, .bool false, .ref (zH2 h l m).objs.size, .ref (zH3 h l m).objs.size] }
theorem meets_zipTL (l m : Addr) (xs ys : Array Value) :
    Meets (Builtin.«zip.__new__» ⟨[.type "zip", .ref l, .ref m], []⟩) (fun _ R s => s.heap.IsTuple l xs ∧ s.heap.IsList m ys ∧ R (.ok (.ret (.ref (zH4 s.heap l m).objs.size))) { s with heap := zH5 s.heap l m }) :=
  .of_wp fun prog w A R s h => by
    obtain ⟨hp, gs, dr, tk, os⟩ := s
    obtain ⟨t1, t2, h⟩ := h
    have sz := sub_zip
    have t1' : Heap.IsTuple (Shared.heap ⟨hp, gs, dr, tk, os⟩) l xs := t1
    have t2' : Heap.IsList (Shared.heap ⟨hp.push { cls := .type "tuple_iterator", data := .fields #[.ref l, .int 0 0] }, gs, dr, tk, os⟩) m ys := Heap.IsList.push t2 _
    wp_walk using wpAny_pyIter_tuple t1', wpAny_pyIter_list t2'
    exact ⟨_, rfl, h⟩
theorem call_zipTL {prog : Program} {w : World} {A : Around} {E : Value → Shared → Prop} {s : Shared} {l m : Addr} {xs ys : Array Value} {Q : Value → Shared → Prop} (t1 : s.heap.IsTuple l xs) (t2 : s.heap.IsList m ys)
    (q : ∀ h', Zst h' (s.heap.objs.size + 4) (s.heap.objs.size + 2) (s.heap.objs.size + 3) s.heap.objs.size (s.heap.objs.size + 1) .none .none .none → h'.IsTupleIter s.heap.objs.size l 0 → h'.IsListIter (s.heap.objs.size + 1) m 0 →
      (∀ c o, s.heap.get? c = some o → h'.get? c = some o) → Q (.ref (s.heap.objs.size + 4)) { s with heap := h' }) : wpAny (model prog w) A (call (.type "zip") [.ref l, .ref m]) Q E s := by
  refine callType_new PySem.F.called_zip (by decide) (PySem.F.typeCall_zip_2 _ _) (PySem.F.newCall_zip_2 _ _) (fun obj => PySem.F.args_object_init_3 obj _ _) PySem.F.entry_zip_new (meets_zipTL l m xs ys) ⟨t1, t2, ?_⟩
  have s1 : (zH1 s.heap l).objs.size = s.heap.objs.size + 1 := Heap.size_push ..
  have s2 : (zH2 s.heap l m).objs.size = s.heap.objs.size + 2 := by rw [Heap.size_push, s1]
  have s3 : (zH3 s.heap l m).objs.size = s.heap.objs.size + 3 := by rw [Heap.size_push, s2]
  have s4 : (zH4 s.heap l m).objs.size = s.heap.objs.size + 4 := by rw [Heap.size_push, s3]
  have up : ∀ {c o}, (zH4 s.heap l m).get? c = some o → (zH5 s.heap l m).get? c = some o := fun e => Heap.get?_push_of_some _ e
  have a5 : (zH5 s.heap l m).get? (zH4 s.heap l m).objs.size = some _ := Heap.get?_push_size _ rfl
  have a4 : (zH5 s.heap l m).get? (zH3 s.heap l m).objs.size = some _ := up (Heap.get?_push_size _ rfl)
  have a3 : (zH5 s.heap l m).get? (zH2 s.heap l m).objs.size = some _ := up (Heap.get?_push_of_some _ (Heap.get?_push_size _ rfl))
  have a2 : (zH5 s.heap l m).get? (zH1 s.heap l).objs.size = some _ := up (Heap.get?_push_of_some _ (Heap.get?_push_of_some _ (Heap.get?_push_size _ rfl)))
  have a1 : (zH5 s.heap l m).get? s.heap.objs.size = some _ := up (Heap.get?_push_of_some _ (Heap.get?_push_of_some _ (Heap.get?_push_of_some _ (Heap.get?_push_size _ rfl))))
  show _ ∧ _
  rw [s2, s3, s4] at a5
  rw [s3] at a4
  rw [s1, s2] at a3
  rw [s1] at a2
  rw [s4]
  refine ⟨⟨_, a5, rfl⟩, q _ ⟨a5, a3, a4⟩ ⟨_, a1, rfl, rfl⟩ ⟨_, a2, rfl, rfl⟩ fun c o e => up (Heap.get?_push_of_some _ (Heap.get?_push_of_some _ (Heap.get?_push_of_some _ (Heap.get?_push_of_some _ e))))⟩
/-! ### the walk over such a zip -/
/-- the tuple at a and the list at b as they stand at each turn -/
def ItzM (K : PySem.W.Frag) (a b : Addr) : It :=
  ⟨fun i H => ∃ (xs ys : List V) (x y : V), (SqT K H a xs ∧ SqL K H b ys) ∧ xs[i]? = some x ∧ ys[i]? = some y,
   fun i H v H' => ∃ t x y, (v = .ref t ∧ H t = none ∧ H' = upd H t (.tup [x, y])) ∧ (∀ xs, SqT K H a xs → xs[i]? = some x) ∧ ∀ ys, SqL K H b ys → ys[i]? = some y,
   fun i H => ∃ xs ys : List V, (SqT K H a xs ∧ SqL K H b ys) ∧ (xs.length ≤ i ∨ ys.length ≤ i)⟩
theorem turn_zipM {P : Program} {w : World} {K : PySem.W.Frag} {elts : List Expr} {kk : Nat} {tpos : Pos} {a b z TI TO i1 i2 : Addr} (D : ZipApart z TI TO i1 i2 a b) :
    Turn P w K (.Tuple elts kk tpos) (ItzM K a b) [z, TI, TO, i1, i2] z (fun i h => (∃ x y, Zst h z TI TO i1 i2 x y .none) ∧ h.IsTupleIter i1 a i ∧ h.IsListIter i2 b i) := by
  have five : ∀ {c : Addr}, c ∈ [z, TI, TO, i1, i2] → c = z ∨ c = TI ∨ c = TO ∨ c = i1 ∨ c = i2 := fun h => by simpa using h
  have off : ∀ {c : Addr}, c ∉ [z, TI, TO, i1, i2] → c ≠ z ∧ c ≠ TI ∧ c ≠ TO ∧ c ≠ i1 ∧ c ≠ i2 := fun h => by simpa using h
  refine ⟨by simp, fun i h st c hc => ?_, fun i h h' st k => ?_, ?_, ?_, fun A i s Q E st h => ?_⟩
  · obtain ⟨⟨x, y, gz, gi, go⟩, ⟨o1, e1, _, d1⟩, o2, e2, _, d2⟩ := st
    rcases five hc with q | q | q | q | q <;> rw [q]
    · exact ⟨_, gz, fun v u => nomatch u⟩
    · exact ⟨_, gi, fun v u => nomatch u⟩
    · exact ⟨_, go, fun v u => nomatch u⟩
    · exact ⟨o1, e1, fun v u => by rw [d1] at u; cases u⟩
    · exact ⟨o2, e2, fun v u => by rw [d2] at u; cases u⟩
  · obtain ⟨⟨x, y, gz, gi, go⟩, n1, n2⟩ := st
    exact ⟨⟨x, y, k z (by simp) _ gz, k TI (by simp) _ gi, k TO (by simp) _ go⟩, n1.at fun o u => k i1 (by simp) o u, n2.at fun o u => k i2 (by simp) o u⟩
  · intro X hP hw hK hc i pins s σ H E I hf st hg
    subst hP hw hK
    obtain ⟨⟨x0, y0, g⟩, n1, n2⟩ := st
    obtain ⟨xs, ys, x, y, ⟨qx, qy⟩, hx, hy⟩ := hg
    obtain ⟨its, rv, pl, _⟩ := I.tuple qx
    obtain ⟨jts, rw', pr, _⟩ := I.list qy
    obtain ⟨u, hu, ru⟩ := rv.get hx
    obtain ⟨v, hv, rv2⟩ := rw'.get hy
    have zl : z < s.heap.objs.size := Heap.lt_size g.z
    have b1 : i1 < s.heap.objs.size := by obtain ⟨_, e, _⟩ := n1; exact Heap.lt_size e
    have b2 : i2 < s.heap.objs.size := by obtain ⟨_, e, _⟩ := n2; exact Heap.lt_size e
    have b3 : a < s.heap.objs.size := by obtain ⟨_, e, _⟩ := pl; exact Heap.lt_size e
    refine pyNext_zipD_item (dr_tup D.l1i1) (dr_lst D.l2i2) D g ⟨n1, pl⟩ ⟨n2, pr.isList⟩ (x := u) (y := v) (by simpa using hu) (by simpa using hv) (fun h' g' m1 m2 ht kp => ?_) b3 pr.lt b1 b2
    refine ⟨_, rfl, wpAny_letOwnedTupleGo_zip (s := { s with heap := h' }) g'.z fun h'' z'' sb => ?_⟩
    have ht2 : h''.get? s.heap.objs.size = some { cls := .type "tuple", data := .seq #[u, v] } := (sb.2 _ (Nat.ne_of_gt zl)).trans ht
    have fresh : ObjOk X.prog X.w (upd H s.heap.objs.size (.tup [x, y])) h'' s.heap.objs.size (.tup [x, y]) := ⟨by show 2 ≤ sizeLine; decide, [u, v], .cons ru (.cons rv2 .nil), ⟨_, ht2, rfl, _, rfl⟩⟩
    have I1 : Inv X pins σ (upd H s.heap.objs.size (.tup [x, y])) { s with heap := h'' } :=
      I.turnedNew (t' := s.toks) (ch := [z, TI, TO, i1, i2]) (fun c o hb e => (sb.2 c (off hb).1).trans (kp c o (off hb).1 (off hb).2.2.1 (off hb).2.2.2.1 (off hb).2.2.2.2 e)) hf (Nat.le_refl _) fresh
    refine ⟨.ref s.heap.objs.size, _, I1, rfl, ⟨_, x, y, ⟨rfl, I.hok.fresh (Nat.le_refl _), rfl⟩, fun l hl => by rw [I.tuple_inj hl qx]; exact hx, fun l hl => by rw [I.list_inj hl qy]; exact hy⟩, ⟨⟨u, v, z'', ?_, ?_⟩, ?_, ?_⟩, fun c hcm => ?_⟩
    · exact (sb.2 _ D.TIz).trans g'.ti
    · exact (sb.2 _ D.TOz).trans g'.to
    · exact m1.1.at fun o e => (sb.2 _ D.i1z).trans e
    · exact m2.1.at fun o e => (sb.2 _ D.i2z).trans e
    · have hlt : c < s.heap.objs.size := by
        rcases five hcm with q | q | q | q | q <;> rw [q]
        · exact zl
        · exact Heap.lt_size g.ti
        · exact Heap.lt_size g.to
        · exact b1
        · exact b2
      rw [upd_ne (Nat.ne_of_lt hlt)]
      exact (hf c hcm).1
  · intro X hP hw hK hc i pins s σ H E I hf st hg
    subst hP hw hK
    obtain ⟨⟨x0, y0, g⟩, n1, n2⟩ := st
    obtain ⟨xs, ys, ⟨qx, qy⟩, hend⟩ := hg
    obtain ⟨its, rv, pl, _⟩ := I.tuple qx
    obtain ⟨jts, rw', pr, _⟩ := I.list qy
    have e1 := rv.length
    have e2 := rw'.length
    have he : its.toArray[i]? = none ∨ jts.toArray[i]? = none := hend.imp (fun q => by simp; omega) fun q => by simp; omega
    exact pyNext_zipD_stop (I.ok.hd hc) (dr_tup D.l1i1) (dr_lst D.l2i2) D g ⟨n1, pl⟩ ⟨n2, pr.isList⟩ he fun h' kp => ⟨rfl, I.turnedL (t' := s.toks) (ch := [z, TI, TO, i1, i2]) (fun c o hb e => kp c o (off hb).1 (off hb).2.2.1 (off hb).2.2.2.1 (off hb).2.2.2.2 e) hf⟩
  · obtain ⟨⟨x, y, g⟩, _⟩ := st
    exact wpAny_pyIter_zip g.z h
/-- zip(t, x): t a tuple, x a list or a tuple -/
def iZipM (K : PySem.W.Frag) (ta : TA) : TI := fun σ H R => ta σ H fun vs H1 => ∃ a b xs ys, vs = [.ref a, .ref b] ∧ SqT K H1 a xs ∧ ((SqL K H1 b ys ∧ R (ItzM K a b) H1) ∨ (SqT K H1 b ys ∧ R (RZ.ItzT K a b) H1))
theorem pi_zipM {X : Cx} {e e2 : Expr} {ta : TA} {p pos tpos : Pos} {elts : List Expr} {kk : Nat} (hg : Gl X "zip") (hm : X.mg "zip" = none) (ha : PA X [e, e2] ta)
    (hs : starEach [e, e2] X.env = (false, eval e X.env) :: starEach [e2] X.env := by rfl) (hpl : (backTo pos (starEach [e2] X.env)).any (·.1) = false := by rfl) :
    PI X (.Tuple elts kk tpos) (.Call (.Name "zip" p) [e, e2] [] pos) (iZipM X.K ta) := by
  refine ⟨fun pins s σ H R I h => ?_⟩
  refine Call_ (ld_blt I hg hm PyProof.Rows.boot_zip (PyProof.Rows.callWith_type1 (thn (ha.run pos pins s σ H _ I h) fun us s1 ⟨vs, H1, I1, r1, a, b, xs, ys, ex, qx, q⟩ => ?_) hs hpl))
  subst ex
  obtain ⟨u, v, rfl, ru, rv⟩ := vals2 r1
  cases ru
  cases rv
  have up : ∀ c, c ∈ [s1.heap.objs.size + 4, s1.heap.objs.size + 2, s1.heap.objs.size + 3, s1.heap.objs.size, s1.heap.objs.size + 1] → FpOk X pins H1 c := fun c hc => by
    have hle : s1.heap.objs.size ≤ c := by
      simp only [List.mem_cons, List.not_mem_nil, or_false] at hc
      omega
    exact I1.fpOk hle (I1.hok.fresh hle)
  obtain ⟨its, _, p1, _⟩ := I1.tuple qx
  have b1 : a < s1.heap.objs.size := by obtain ⟨_, e, _⟩ := p1; exact Heap.lt_size e
  rcases q with ⟨qy, q⟩ | ⟨qy, q⟩
  · obtain ⟨jts, _, p2, _⟩ := I1.list qy
    refine call_zipTL (show s1.heap.IsTuple a its.toArray from p1) p2.isList fun h' g n1 n2 kp => wpAny_pyIter_zip g.z ?_
    exact ⟨s1.heap.objs.size + 4, [s1.heap.objs.size + 4, s1.heap.objs.size + 2, s1.heap.objs.size + 3, s1.heap.objs.size, s1.heap.objs.size + 1], _, _, H1, rfl, I1.kept (t' := s1.toks) (h' := h') kp, turn_zipM (PySem.W.ktu_apart s1.heap.objs.size a b b1 p2.lt), ⟨⟨_, _, g⟩, n1, n2⟩, up, q⟩
  · obtain ⟨jts, _, p2, _⟩ := I1.tuple qy
    have b2 : b < s1.heap.objs.size := by obtain ⟨_, e, _⟩ := p2; exact Heap.lt_size e
    refine RZ.call_zipT (show s1.heap.IsTuple a its.toArray from p1) (show s1.heap.IsTuple b jts.toArray from p2) fun h' gz gi go n1 n2 _ kp => wpAny_pyIter_zip gz ?_
    exact ⟨s1.heap.objs.size + 4, [s1.heap.objs.size + 4, s1.heap.objs.size + 2, s1.heap.objs.size + 3, s1.heap.objs.size, s1.heap.objs.size + 1], _, _, H1, rfl, I1.kept (t' := s1.toks) (h' := h') kp, RZ.turn_zipT (PySem.W.ktu_apart s1.heap.objs.size a b b1 b2), ⟨gz, gi, ⟨_, _, go⟩, n1, n2⟩, up, q⟩
theorem for_zipM {K : PySem.W.Frag} {a b : Addr} {xs ys : List V} {g : TG} {tb : TS} {D : Ends} {σ : L2.St} {H : Hp} (hlen : xs.length = ys.length) (Pv : Nat → L2.St → Hp → Prop) (h0 : Pv 0 σ H) (hx : ∀ i σ H, Pv i σ H → SqT K H a xs) (hy : (∀ i σ H, Pv i σ H → SqL K H b ys) ∨ (∀ i σ H, Pv i σ H → SqT K H b ys))
    (hs : ∀ (i : Nat) (x y : V) (t : Addr) (σ : L2.St) (H : Hp), xs[i]? = some x → ys[i]? = some y → Pv i σ H → H t = none → g (.ref t) σ (upd H t (.tup [x, y])) fun σ2 H2 => tb { D with nx := Pv (i + 1), ct := Pv (i + 1), bk := D.nx } σ2 H2) (hd : ∀ σ H, Pv xs.length σ H → D.nx σ H) :
    (SqL K H b ys ∧ ∃ W : Nat → Nat → L2.St → Hp → Prop, (∃ m, W 0 m σ H) ∧ ∀ i m σ H, W i m σ H → ((ItzM K a b).stop i H ∧ D.nx σ H) ∨ ((ItzM K a b).go i H ∧ ∃ N : L2.St → Hp → Prop, (∀ σ' H', N σ' H' → ∃ m', m' < m ∧ W (i + 1) m' σ' H') ∧ ∀ v H', (ItzM K a b).yld i H v H' → g v σ H' fun σ2 H2 => tb { D with nx := N, ct := N, bk := D.nx } σ2 H2)) ∨
    (SqT K H b ys ∧ ∃ W : Nat → Nat → L2.St → Hp → Prop, (∃ m, W 0 m σ H) ∧ ∀ i m σ H, W i m σ H → ((RZ.ItzT K a b).stop i H ∧ D.nx σ H) ∨ ((RZ.ItzT K a b).go i H ∧ ∃ N : L2.St → Hp → Prop, (∀ σ' H', N σ' H' → ∃ m', m' < m ∧ W (i + 1) m' σ' H') ∧ ∀ v H', (RZ.ItzT K a b).yld i H v H' → g v σ H' fun σ2 H2 => tb { D with nx := N, ct := N, bk := D.nx } σ2 H2)) := by
  rcases hy with hy | hy
  · refine .inl ⟨hy 0 _ _ h0, fun i m σ H => m = xs.length - i ∧ i ≤ xs.length ∧ Pv i σ H, ⟨xs.length, by simp, Nat.zero_le _, h0⟩, ?_⟩
    rintro i m σ H ⟨rfl, hi, p⟩
    have qx := hx i σ H p
    have qy := hy i σ H p
    by_cases hlt : i < xs.length
    · have e1 : xs[i]? = some xs[i] := List.getElem?_eq_getElem hlt
      have e2 : ys[i]? = some ys[i] := List.getElem?_eq_getElem (by omega)
      refine .inr ⟨⟨xs, ys, _, _, ⟨qx, qy⟩, e1, e2⟩, Pv (i + 1), fun σ' H' p' => ⟨xs.length - (i + 1), by omega, rfl, hlt, p'⟩, fun v H' y => ?_⟩
      obtain ⟨t, x', y', ⟨rfl, ht, rfl⟩, f1, f2⟩ := y
      exact hs i x' y' t σ H (f1 xs qx) (f2 ys qy) p ht
    · have e : i = xs.length := by omega
      subst e
      exact .inl ⟨⟨xs, ys, ⟨qx, qy⟩, .inl (Nat.le_refl _)⟩, hd σ H p⟩
  · exact .inr ⟨hy 0 _ _ h0, RZ.for_zipT hlen Pv h0 (fun i σ H p => ⟨hx i σ H p, hy i σ H p⟩) hs hd⟩
end Ru

set_option Elab.async false
set_option linter.all false
set_option maxRecDepth 100000
set_option maxHeartbeats 2000000
/-! more rules: an index in a comprehension, isinstance of two of one's own classes, dicts by names, three dicts -/
namespace Ru
open PySem PySem.Spec PyProof.Rows L2
theorem ix_listK {X : Cx} (K : PySem.W.Frag) (h : X.K = K) : IxR X (rIxL K) := h ▸ ix_list
theorem ix_tupK {X : Cx} (K : PySem.W.Frag) (h : X.K = K) : IxR X (rIxT K) := h ▸ ix_tup
theorem nodup_map_range {α : Type} {f : Nat → α} : ∀ {n : Nat}, (∀ i j, i < n → j < n → f i = f j → i = j) → ((List.range n).map f).Nodup
  | 0, _ => by simp
  | n + 1, h => by
    rw [List.range_succ, List.map_append, List.nodup_append]
    refine ⟨nodup_map_range fun i j hi hj e => h i j (by omega) (by omega) e, by simp, fun a ha b hb e => ?_⟩
    obtain ⟨i, hi, rfl⟩ := List.mem_map.mp ha
    rw [List.map_singleton, List.mem_singleton] at hb
    subst hb
    have hi := List.mem_range.mp hi
    have := h i n (by omega) (by omega) e
    omega
/-! ## isinstance(x, (C, D)), both one's own -/
def rIsO2 (K : PySem.W.Frag) (D1 D2 : Addr) (T : Addr → Bool → Prop) : List V → Hp → VK → Prop := fun xs H Q => ∃ a tp C dx fs b, xs = [.ref a, .ref tp] ∧ H tp = some (.tup [.ref D1, .ref D2]) ∧ H a = some (.ins C dx fs) ∧ T C b ∧ Q (.bl b) H
theorem call_isO2 {X : Cx} {D1 D2 : Addr} {T1 T2 : Addr → Bool → Prop} (h1 : IsT X.K D1 T1) (h2 : IsT X.K D2 T2) : CallR X (.builtin "isinstance") (rIsO2 X.K D1 D2 fun C b => ∃ b1 b2, T1 C b1 ∧ T2 C b2 ∧ b = (b1 || b2)) := by
  intro pins s σ H xs us Q I r hq
  obtain ⟨a, tp, C, dx, fs, b, rfl, ht, ha, ⟨b1, b2, t1, t2, rfl⟩, q⟩ := hq
  obtain ⟨⟨mg, x, c⟩, e1⟩ := h1 C b1 t1
  obtain ⟨_, e2⟩ := h2 C b2 t2
  refine call_isiT pins s σ H _ us Q I r ⟨.ref a, tp, _, _, _, b1 || b2, rfl, ht, .cons (.own D1) (.cons (.own D2) .nil), .base (.ins ha c.cl c.ha c.hn c.htk c.hm), ?_, q⟩
  refine kitAny_cons e1 (fun h => ?_) (fun h => by rw [h]; rfl)
  refine kitAny_cons e2 (fun h' => ?_) (fun h' => by rw [h']; simp)
  rw [h, h']
  rfl
/-! ## dicts of names -/
def keysL {α : Type} (l : List (Str × α)) : List Str := l.map (·.1)
def putL {α : Type} (l : List (Str × α)) (n : Str) (v : α) : List (Str × α) := if n ∈ keysL l then l.map fun p => if p.1 = n then (n, v) else p else l ++ [(n, v)]
def getL {α : Type} (l : List (Str × α)) (n : Str) : Option α := (l.find? fun p => decide (p.1 = n)).map (·.2)
def dL {α : Type} (f : α → V) (l : List (Str × α)) : List (Key × V) := l.map fun p => (.inr p.1, f p.2)
section
variable {α : Type} {f : α → V} {l : List (Str × α)} {n m : Str} {v : α}
theorem dL_any : ((dL f l).any fun kv => decide (kv.1 = (Sum.inr n : Key))) = decide (n ∈ keysL l) := by
  rw [Bool.eq_iff_iff, List.any_eq_true, decide_eq_true_eq]
  unfold dL keysL
  constructor
  · rintro ⟨x, hx, e⟩
    obtain ⟨p, hp, rfl⟩ := List.mem_map.mp hx
    have e : p.1 = n := by simpa using e
    exact List.mem_map.mpr ⟨p, hp, e⟩
  · intro h
    obtain ⟨p, hp, rfl⟩ := List.mem_map.mp h
    exact ⟨_, List.mem_map.mpr ⟨p, hp, rfl⟩, by simp⟩
theorem dL_put : putK (dL f l) (Sum.inr n : Key) (f v) = dL f (putL l n v) := by
  unfold putK putL
  rw [dL_any]
  by_cases h : n ∈ keysL l
  · rw [decide_eq_true h, if_pos rfl, if_pos h]
    unfold dL
    rw [List.map_map, List.map_map]
    apply List.map_congr_left
    intro x _
    simp only [Function.comp]
    by_cases e : x.1 = n
    · rw [if_pos e, if_pos (by rw [e]), e]
    · rw [if_neg e, if_neg (fun q => e (by injection q))]
  · rw [decide_eq_false h, if_neg (by decide), if_neg h]
    simp [dL]
theorem dL_get : ∀ {l : List (Str × α)}, valV (dL f l) (Sum.inr n : Key) = (getL l n).map f
  | [] => rfl
  | (x, a) :: l => by
    by_cases e : x = n
    · subst e
      have h2 : valV (dL f ((x, a) :: l)) (Sum.inr x : Key) = some (f a) := valV_pos rfl
      rw [h2]
      simp [getL]
    · have h2 : valV (dL f ((x, a) :: l)) (Sum.inr n : Key) = valV (dL f l) (Sum.inr n : Key) := valV_neg fun q => e (by injection q)
      rw [h2, dL_get]
      simp [getL, e]
theorem dL_len : (dL f l).length = l.length := by simp [dL]
theorem getL_mem : (∃ v, getL l n = some v) ↔ n ∈ keysL l := by
  unfold getL keysL
  constructor
  · rintro ⟨v, h⟩
    obtain ⟨p, hp, rfl⟩ := Option.map_eq_some_iff.mp h
    have h1 := List.mem_of_find?_eq_some hp
    have h2 := List.find?_some hp
    exact List.mem_map.mpr ⟨p, h1, by simpa using h2⟩
  · intro h
    obtain ⟨p, hp, rfl⟩ := List.mem_map.mp h
    have : (l.find? fun q => decide (q.1 = p.1)).isSome := by
      rw [List.find?_isSome]
      exact ⟨p, hp, by simp⟩
    obtain ⟨q, hq⟩ := Option.isSome_iff_exists.mp this
    exact ⟨q.2, by rw [hq]; rfl⟩
theorem getL_none : getL l n = none ↔ n ∉ keysL l := by
  rw [← getL_mem]
  cases getL l n <;> simp
theorem keys_put (h : n ∈ keysL l) : keysL (putL l n v) = keysL l := by
  unfold putL
  rw [if_pos h]
  unfold keysL
  rw [List.map_map]
  apply List.map_congr_left
  intro x _
  simp only [Function.comp]
  split
  · rename_i e
    exact e.symm
  · rfl
theorem keys_new (h : n ∉ keysL l) : putL l n v = l ++ [(n, v)] := by
  unfold putL
  rw [if_neg h]
theorem keys_put_new (h : n ∉ keysL l) : keysL (putL l n v) = keysL l ++ [n] := by
  rw [keys_new h]
  simp [keysL]
theorem put_le : (putL l n v).length ≤ l.length + 1 := by
  unfold putL
  split <;> simp
theorem len_keys : (keysL l).length = l.length := by simp [keysL]
theorem getL_put : getL (putL l n v) m = if m = n then some v else getL l m := by
  have e := dL_get (f := fun a : α => V.non) (l := putL l n v) (n := m)
  clear e
  unfold putL
  split
  · rename_i h
    by_cases e : m = n
    · subst e
      rw [if_pos rfl]
      obtain ⟨p, hp, e1⟩ := List.mem_map.mp h
      unfold getL
      have : ((l.map fun p => if p.1 = m then (m, v) else p).find? fun p => decide (p.1 = m)) = some (m, v) := by
        clear h
        induction l with
        | nil => cases hp
        | cons x l ih =>
          rw [List.map_cons]
          by_cases hx : x.1 = m
          · rw [if_pos hx]
            simp
          · rw [if_neg hx, List.find?_cons_of_neg (by simpa using hx)]
            rcases List.mem_cons.mp hp with rfl | hp
            · exact absurd e1 hx
            · exact ih hp
      rw [this]
      rfl
    · rw [if_neg e]
      unfold getL
      clear h
      induction l with
      | nil => rfl
      | cons x l ih =>
        rw [List.map_cons]
        by_cases hx : x.1 = n
        · rw [if_pos hx, List.find?_cons_of_neg (by simpa using fun q => e q.symm), ih, List.find?_cons_of_neg (by rw [hx]; simpa using fun q => e q.symm)]
        · rw [if_neg hx]
          by_cases hm : x.1 = m
          · rw [List.find?_cons_of_pos (by simpa using hm), List.find?_cons_of_pos (by simpa using hm)]
          · rw [List.find?_cons_of_neg (by simpa using hm), List.find?_cons_of_neg (by simpa using hm), ih]
  · rename_i h
    unfold getL
    rw [List.find?_append]
    by_cases e : m = n
    · subst e
      rw [if_pos rfl]
      have : (l.find? fun p => decide (p.1 = m)) = none := by
        rw [List.find?_eq_none]
        intro p hp q
        exact h (List.mem_map.mpr ⟨p, hp, by simpa using q⟩)
      rw [this]
      simp
    · rw [if_neg e]
      have : ([(n, v)].find? fun p => decide (p.1 = m)) = none := by
        simp
        exact fun q => e q.symm
      rw [this]
      cases l.find? fun p => decide (p.1 = m) <;> rfl
end
/-! ## for over a list or a tuple, whichever it is -/
def iAny (K : PySem.W.Frag) (te : TE) : TI := fun σ H R => te σ H fun x H1 => ∃ a xs, x = .ref a ∧ ((SqL K H1 a xs ∧ R (Itl K a) H1) ∨ (SqT K H1 a xs ∧ R (Itt K a) H1))
theorem pi_any {X : Cx} {tg l : Expr} {te : TE} (hl : PE X l te) : PI X tg l (iAny X.K te) := by
  refine ⟨fun pins s σ H R I h => ?_⟩
  refine thn (hl.run pins s σ H _ I h) fun v s1 ⟨x, H1, I1, r1, a, xs, ex, q⟩ => ?_
  subst ex
  cases r1
  have fp : ∀ b, b ∈ [s1.heap.objs.size] → FpOk X pins H1 b := fun b hb => by
    rw [List.mem_singleton.mp hb]
    exact I1.fpOk (Nat.le_refl _) (I1.hok.fresh (Nat.le_refl _))
  rcases q with ⟨hq, q⟩ | ⟨hq, q⟩
  · obtain ⟨its, _, pl, _⟩ := I1.list hq
    exact wpAny_pyIter_list pl.isList ⟨_, [s1.heap.objs.size], _, _, H1, rfl, I1.kept (t' := s1.toks) fun b o e => Heap.get?_push_of_some _ e, turn_list a _, ⟨_, Heap.get?_push_size _ rfl, rfl, rfl⟩, fp, q⟩
  · obtain ⟨its, _, pt, _⟩ := I1.tuple hq
    exact wpAny_pyIter_tuple (show s1.heap.IsTuple a its.toArray from pt) ⟨_, [s1.heap.objs.size], _, _, H1, rfl, I1.kept (t' := s1.toks) fun b o e => Heap.get?_push_of_some _ e, turn_tuple a _, ⟨_, Heap.get?_push_size _ rfl, rfl, rfl⟩, fp, q⟩
/-- a list or a tuple -/
def Sq (K : PySem.W.Frag) (H : Hp) (a : Addr) (xs : List V) : Prop := SqL K H a xs ∨ SqT K H a xs
/-- a loop over what is a list or a tuple -/
theorem for_any {K : PySem.W.Frag} {a : Addr} {xs : List V} {g : TG} {tb : TS} {D : Ends} {σ : L2.St} {H : Hp} (Pv : Nat → L2.St → Hp → Prop) (h0 : Pv 0 σ H) (hl : (∀ i σ H, i ≤ xs.length → Pv i σ H → SqL K H a xs) ∨ (∀ i σ H, i ≤ xs.length → Pv i σ H → SqT K H a xs))
    (hs : ∀ i x σ H, xs[i]? = some x → Pv i σ H → g x σ H fun σ2 H2 => tb { D with nx := Pv (i + 1), ct := Pv (i + 1), bk := D.nx } σ2 H2) (hd : ∀ σ H, Pv xs.length σ H → D.nx σ H) :
    (SqL K H a xs ∧ ∃ W : Nat → Nat → L2.St → Hp → Prop, (∃ m, W 0 m σ H) ∧ ∀ i m σ H, W i m σ H → ((Itl K a).stop i H ∧ D.nx σ H) ∨ ((Itl K a).go i H ∧ ∃ N : L2.St → Hp → Prop, (∀ σ' H', N σ' H' → ∃ m', m' < m ∧ W (i + 1) m' σ' H') ∧ ∀ x H', (Itl K a).yld i H x H' → g x σ H' fun σ2 H2 => tb { D with nx := N, ct := N, bk := D.nx } σ2 H2)) ∨
    (SqT K H a xs ∧ ∃ W : Nat → Nat → L2.St → Hp → Prop, (∃ m, W 0 m σ H) ∧ ∀ i m σ H, W i m σ H → ((Itt K a).stop i H ∧ D.nx σ H) ∨ ((Itt K a).go i H ∧ ∃ N : L2.St → Hp → Prop, (∀ σ' H', N σ' H' → ∃ m', m' < m ∧ W (i + 1) m' σ' H') ∧ ∀ x H', (Itt K a).yld i H x H' → g x σ H' fun σ2 H2 => tb { D with nx := N, ct := N, bk := D.nx } σ2 H2)) := by
  rcases hl with hl | hl
  · exact .inl ⟨hl 0 _ _ (Nat.zero_le _) h0, for_list Pv h0 hl hs hd⟩
  · exact .inr ⟨hl 0 _ _ (Nat.zero_le _) h0, for_tup Pv h0 hl hs hd⟩
end Ru

set_option Elab.async false
set_option linter.all false
set_option maxRecDepth 100000
set_option maxHeartbeats 2000000
/-! tuples of dicts held against each other -/
namespace PySem.SeqAt
open AutoSeq1 (wpAny_loadPart')
open MeetsSeq MeetsSeq2 MeetsSeq3 SeqRoads2
/-- two tuples whose items are the same, one by one: not unlike -/
theorem ne_same_tuples (P : Program) (W : World) (p q : Addr) (us ws : Array Value) (np nq : Nat) (dp dq : Option Addr) (sp sq : Array (Option Value)) :
    MeetsIn P W (Builtin.«tuple.__ne__» ⟨[.ref p, .ref q], []⟩)
      (fun A R s => s.heap.get? p = some ⟨.type "tuple", dp, .seq us np, sp⟩ ∧ s.heap.get? q = some ⟨.type "tuple", dq, .seq ws nq, sq⟩ ∧ us.size = ws.size ∧
        (∀ k (a : k < us.size) (b : k < ws.size), EqIn P W A.in1 s us[k] ws[k] true) ∧ R (.ok (.ret (.bool false))) s) :=
  .of_wp fun A R s z => by
    obtain ⟨hp, gs, dr, tk, os⟩ := s
    obtain ⟨zp, zq, zn, ze, zr⟩ := z
    have tt := AutoSeq1.sub_tuple_tuple
    have zl : (us.toList.zip ws.toList).length = us.size := by simp [zn]
    wp_walk using wpAny_loadPart' zp, wpAny_loadPart' zq, wpAny_forIn_list _ (fun left acc now => acc.1 = none ∧ now = ⟨hp, gs, dr, tk, os⟩ ∧ ∃ k, left = (us.toList.zip ws.toList).drop k) _
    case turn =>
      rintro ⟨u, v⟩ left acc now ⟨ea, rfl, k, el⟩
      by_cases hk : k < us.size
      · rw [List.drop_eq_getElem_cons (by rw [zl]; exact hk)] at el
        obtain ⟨e1, e2⟩ := List.cons.inj el
        rw [List.getElem_zip] at e1
        obtain ⟨rfl, rfl⟩ := Prod.mk.inj e1
        refine wpAny_bind ((ze k hk (zn ▸ hk)) _ _ ?_)
        wp_walk
        exact ⟨rfl, rfl, k + 1, e2⟩
      · rw [List.drop_of_length_le (by rw [zl]; omega)] at el
        cases el
    case fin =>
      rintro ⟨c1, c2⟩ now ⟨ec, rfl, k, _⟩
      simp only at ec
      subst ec
      wp_walk
      exact ⟨_, rfl, by simpa [Builtin.Tuple.tupleCompareSizes, zn] using zr⟩
    case h => exact ⟨rfl, rfl, 0, rfl⟩
end PySem.SeqAt
namespace Ru
open PySem PySem.Spec PyProof.Rows L2
/-- two tuples of dicts of the same pairs -/
def TwoTD (H : Hp) (a b : Addr) : Prop := a ≠ b ∧ ∃ (as bs : List Addr), H a = some (.tup (as.map V.ref)) ∧ H b = some (.tup (bs.map V.ref)) ∧ as.length = bs.length ∧
  ∀ (i : Nat) (p q : Addr), as[i]? = some p → bs[i]? = some q → p ≠ q ∧ ∃ ks ls, H p = some (.dK ks) ∧ H q = some (.dK ls) ∧ ks.length = ls.length ∧ ∀ r ∈ ks, valV ls r.1 = some r.2 ∧ flatB r.2 = true
def rEqTD : R2 := fun x y H Q => ∃ a b, x = .ref a ∧ y = .ref b ∧ TwoTD H a b ∧ Q (.bl true) H
def rNeTD : R2 := fun x y H Q => ∃ a b, x = .ref a ∧ y = .ref b ∧ TwoTD H a b ∧ Q (.bl false) H
theorem vals_refs_at {as : List Addr} {us : List Value} (r : Vals (as.map V.ref) us) : us = as.map Value.ref := by
  induction as generalizing us with
  | nil => cases r; rfl
  | cons a as ih =>
    rw [List.map_cons] at r
    cases r with
    | cons h t =>
      rw [ih t, List.map_cons]
      congr 1
section
variable {X : Cx} {pins : List (Addr × Obj)} {s : Shared} {σ : L2.St} {H : Hp} {A : Around}
theorem eqIn_td (hu : A.units < cLine) (I : Inv X pins σ H s) {p q : Addr} (ne : p ≠ q) {ks ls : List (Key × V)} (ep : H p = some (.dK ks)) (eq : H q = some (.dK ls)) (hlen : ks.length = ls.length) (hp : ∀ r ∈ ks, valV ls r.1 = some r.2 ∧ flatB r.2 = true) :
    SeqAt.EqIn X.prog X.w A s (.ref p) (.ref q) true := by
  refine SeqAt.EqIn.of_refs ne fun E Q hq => ?_
  obtain ⟨_, ya, va, ra, da⟩ := (show ObjOk X.prog X.w H s.heap p (.dK ks) from I.hok p _ ep)
  obtain ⟨_, yb, vb, rb, db⟩ := (show ObjOk X.prog X.w H s.heap q (.dK ls) from I.hok q _ eq)
  have hl : va.length = vb.length := by rw [← ra.length, ← rb.length]; exact hlen
  refine PySem.W.keq_eq (knd := mixKind X.prog X.w) (r := true) ya yb da db hu (fun _ => hits_all rb ra hp) ?_
  rw [hl]
  simpa using hq
theorem td_at (I : Inv X pins σ H s) {a b : Addr} (h : TwoTD H a b) : ∃ us ws : Array Value, s.heap.IsTuple a us ∧ s.heap.IsTuple b ws ∧ us.size = ws.size ∧ ∀ A : Around, A.units < cLine → ∀ k (h1 : k < us.size) (h2 : k < ws.size), SeqAt.EqIn X.prog X.w A s us[k] ws[k] true := by
  obtain ⟨ne, as, bs, ha, hb, hl, hd⟩ := h
  obtain ⟨z1, us, r1, t1⟩ := (show ObjOk X.prog X.w H s.heap a (.tup _) from I.hok a _ ha)
  obtain ⟨z2, ws, r2, t2⟩ := (show ObjOk X.prog X.w H s.heap b (.tup _) from I.hok b _ hb)
  have e1 := vals_refs_at r1
  have e2 := vals_refs_at r2
  subst e1 e2
  refine ⟨_, _, t1, t2, by simpa using hl, fun A hu k h1 h2 => ?_⟩
  have k1 : k < as.length := by simpa using h1
  have k2 : k < bs.length := by simpa using h2
  obtain ⟨n, ks, ls, q1, q2, q3, q4⟩ := hd k as[k] bs[k] (List.getElem?_eq_getElem k1) (List.getElem?_eq_getElem k2)
  have := eqIn_td hu I n q1 q2 q3 q4
  simpa using this
end
theorem op_eqTD {X : Cx} (hu : X.A.units + 1 < cLine) : OpR X (compareOp .Eq) rEqTD := by
  intro pins s σ H x y v u Q I rx ry h
  obtain ⟨a, b, rfl, rfl, t, q⟩ := h
  obtain rfl : v = Value.ref a := rx
  obtain rfl : u = Value.ref b := ry
  obtain ⟨us, ws, t1, t2, sz, eq⟩ := td_at I t
  have := SeqAt.rcIn_tuples (prog := X.prog) (w := X.w) (A := X.A) (s := s) (e := fun _ => true) (E := X.xe) (Q := fun v s' => ∃ x H', Inv X pins σ H' s' ∧ RelV x v ∧ Q x H') t1 t2 (by omega) (fun k h1 h2 => eq _ (by show X.A.units + 1 < cLine; exact hu) k h1 h2) ⟨.bl true, H, I, by
    have : ((List.range (min us.size ws.size)).all (fun _ => true) && us.size == ws.size) = true := by simp [sz]
    rw [this]
    rfl, q⟩
  exact this
theorem op_neTD {X : Cx} (hu : X.A.units + 1 < cLine) : OpR X (compareOp .NotEq) rNeTD := by
  intro pins s σ H x y v u Q I rx ry h
  obtain ⟨a, b, rfl, rfl, t, q⟩ := h
  obtain rfl : v = Value.ref a := rx
  obtain rfl : u = Value.ref b := ry
  obtain ⟨us, ws, t1, t2, sz, eq⟩ := td_at I t
  obtain ⟨⟨c1, d1, e1, s1⟩, o1, q1, n1, p1⟩ := id t1
  obtain ⟨⟨c2, d2, e2, s2⟩, o2, q2, n2, p2⟩ := id t2
  simp only at q1 p1 q2 p2
  subst q1 p1 q2 p2
  refine wpAny_richCompare_same_room (op := .NotEq) ⟨_, o1, rfl⟩ ⟨_, o2, rfl⟩ PySem.F.slot_tuple_ne (call_meetsIn PySem.F.slot_tuple_ne ⟨_, o1, rfl⟩ PySem.F.entry_tuple_ne (PySem.F.args_tuple_ne_2 _ _) (SeqAt.ne_same_tuples X.prog X.w a b us ws n1 n2 d1 d2 s1 s2)
    ⟨o1, o2, sz, fun k h1 h2 => eq _ (by show X.A.units + 1 < cLine; exact hu) k h1 h2, ?_⟩) (by omega)
  exact ⟨(fun x => nomatch x), .bl false, H, I, rfl, q⟩
end Ru

set_option Elab.async false
set_option linter.all false
set_option maxRecDepth 100000
set_option maxHeartbeats 2000000
/-! d.update(e) -/
namespace Ru
open PySem PySem.Spec PyProof.Rows L2
def rDUpd : V → List V → Hp → VK → Prop := fun x vs H Q => ∃ (a b : Addr) (kvs more : List (Key × V)), x = .ref a ∧ vs = [.ref b] ∧ H a = some (.dK kvs) ∧ H b = some (.dK more) ∧ a ≠ b ∧ kvs.length + more.length ≤ sizeLine ∧ Q .non (upd H a (.dK (mergeK kvs more)))
theorem mtd_update {X : Cx} : MtR X "dict.update" rDUpd := by
  intro pins s σ H x vs v us Q I rx rv h
  obtain ⟨a, b, kvs, more, rfl, rfl, ea, eb, n, hz, q⟩ := h
  obtain rfl : v = .ref a := rx
  obtain ⟨u, eu, ru⟩ := vals1 rv
  subst eu
  obtain rfl : u = .ref b := ru
  obtain ⟨z, hd, vs0, rel, dd⟩ := dk_of I.hok ea
  obtain ⟨z2, hd2, vs1, rel2, dd2⟩ := dk_of I.hok eb
  refine call_meetsIn PySem.F.slot_dict_update dd.typeIs PySem.F.entry_dict_update (PySem.F.args_dict_update_2 _ _) (meets_dict_update (mixKind X.prog X.w) a b n hd2) ⟨vs0, vs1, dd, dd2, by rw [← rel.length, ← rel2.length]; exact hz, fun h' dd' _ hs => ?_⟩
  have he : ∃ q, h'.get? a = some q := let ⟨q, _, _, hq, _⟩ := dd'; ⟨q, hq⟩
  have hl := length_mergeK more kvs
  exact ⟨.non, _, d_write (t' := s.toks) I (by rw [ea]; exact True.intro) hs he (dk_new (by omega) hd (rel2.merge rel) dd'), rfl, q⟩
/-! ### names' dicts -/
section
variable {α : Type} {f : α → V}
def putAll (b r : List (Str × α)) : List (Str × α) := r.foldl (fun b p => putL b p.1 p.2) b
theorem dL_merge : ∀ (r b : List (Str × α)), mergeK (dL f b) (dL f r) = dL f (putAll b r)
  | [], b => rfl
  | p :: r, b => by
    show mergeK (putK (dL f b) (.inr p.1) (f p.2)) (dL f r) = _
    rw [dL_put, dL_merge r]
    rfl
theorem putL_mid {pre b : List (Str × α)} {n : Str} {v0 v : α} (h : (keysL (pre ++ (n, v0) :: b)).Nodup) : putL (pre ++ (n, v0) :: b) n v = pre ++ (n, v) :: b := by
  have hm : n ∈ keysL (pre ++ (n, v0) :: b) := by simp [keysL]
  unfold putL
  rw [if_pos hm, List.map_append, List.map_cons, if_pos rfl]
  have e1 : pre.map (fun p => if p.1 = n then (n, v) else p) = pre := by
    conv => rhs; rw [← List.map_id pre]
    refine List.map_congr_left fun p hp => ?_
    have : p.1 ≠ n := fun e => by
      rw [keysL, List.map_append, List.nodup_append] at h
      exact h.2.2 p.1 (List.mem_map.mpr ⟨p, hp, rfl⟩) n (by simp) e
    rw [if_neg this]
    rfl
  have e2 : b.map (fun p => if p.1 = n then (n, v) else p) = b := by
    conv => rhs; rw [← List.map_id b]
    refine List.map_congr_left fun p hp => ?_
    have : p.1 ≠ n := fun e => by
      rw [keysL, List.map_append, List.nodup_append, List.map_cons, List.nodup_cons] at h
      exact h.2.1.1 (List.mem_map.mpr ⟨p, hp, e⟩)
    rw [if_neg this]
    rfl
  rw [e1, e2]
theorem putAll_pre : ∀ (r b pre : List (Str × α)), keysL b = keysL r → (keysL (pre ++ b)).Nodup → putAll (pre ++ b) r = pre ++ r
  | [], b, pre, h, _ => by
    have : b = [] := by
      rw [keysL, keysL, List.map_nil, List.map_eq_nil_iff] at h
      exact h
    rw [this]
    rfl
  | (n, v) :: r, b, pre, h, hn => by
    cases b with
    | nil => simp [keysL] at h
    | cons q b =>
      obtain ⟨m, v0⟩ := q
      simp only [keysL, List.map_cons, List.cons.injEq] at h
      obtain ⟨rfl, h⟩ := h
      show putAll (putL (pre ++ (m, v0) :: b) m v) r = _
      rw [putL_mid hn]
      have e : pre ++ (m, v) :: b = (pre ++ [(m, v)]) ++ b := by simp
      rw [e, putAll_pre r b (pre ++ [(m, v)]) h (by
        have : keysL (pre ++ [(m, v)] ++ b) = keysL (pre ++ (m, v0) :: b) := by simp [keysL]
        rw [this]
        exact hn)]
      simp
theorem putAll_all {b r : List (Str × α)} (h : keysL b = keysL r) (hn : (keysL b).Nodup) : putAll b r = r := putAll_pre r b [] h hn
theorem putAll_app (b r1 r2 : List (Str × α)) : putAll b (r1 ++ r2) = putAll (putAll b r1) r2 := List.foldl_append
end
end Ru

set_option Elab.async false
set_option linter.all false
set_option maxRecDepth 100000
set_option maxHeartbeats 2000000
/-! a method that may raise, called in a try's body -/
namespace Ru
open PySem PySem.Spec PyProof.Rows L2
/-- o.m(..) where what it raises is handled by the slots -/
def tMethS (T : Addr → Prop) (m : Str) (sp : Addr → Sp) (E : L2.St → XK) (ta : TE) (t : TA) : TE := fun σ H Q => ta σ H fun x H1 => ∃ a C dx fs, x = .ref a ∧ H1 a = some (.ins C dx fs) ∧ T C ∧ fs.lookup m = none ∧ t σ H1 fun vs H2 => sp C (x :: vs) H2 Q (E σ)
section
variable {X : Cx} {W : WX} {j k : Nat} {ps : List Str} {sp : Addr → Sp} {T : Addr → Prop} {m : Str} {p pos apos : Pos} {e o : Expr} {es : List Expr} {ta : TE} {t : TA}
theorem pe_methT {pl : Sem Bool} (D : DispAt X.prog X.w X.K X.mg X.base (L2.CX X.prog X.w) T m k ps sp) (hr : Room j X.A) (tk : L2.Takes X W) (he : PE X o ta) (ha : PA X (e :: es) t) (hj : k ≤ j := by decide)
    (hst : starEach (e :: es) X.env = (false, eval e X.env) :: starEach es X.env := by rfl) (hpl : (backTo pos (starEach es X.env)).any (·.1) = false := by rfl)
    (ht : eval (.Call (.Attribute o m apos) (e :: es) [] pos) X.env = (do
      let ov ← eval o X.env
      standAt apos.atName
      let (f, first) ← holding [ov] (getMethod ov m pl)
      callWith pos f first (backTo pos (starEach (e :: es) X.env)) (backToKw pos (keywordEach [] X.env))) := by rfl) :
    PE X (.Call (.Attribute o m apos) (e :: es) [] pos) (tMethS T m sp (WE W) ta t) := by
  refine ⟨fun pins s σ H Q I h => ?_⟩
  refine PySem.W.methodCall_KW (pl := pl) (thn (he.run pins s σ H _ I h) ?_) ht
  rintro u s1 ⟨x, H1, I1, rx, a, C, dx, fs, rfl, ea, tc, l, q⟩
  obtain rfl : u = Value.ref a := rx
  obtain ⟨f, fd, c, hm, hb, F⟩ := D.ex C tc
  refine getmeth_ok I1 ea c hm l ?_
  refine PySem.W.callWith_K (first := [.ref a]) (h₀ := X.base) I.ok.mod.kin hm.kp (thn (ha.run pos pins s1 σ H1 _ I1 q) ?_) hst hpl
  rintro us s2 ⟨vs, H2, I2, r, q2⟩
  exact ⟨I2.kIn, L2.run_fnS (us := .ref a :: us) (vs := .ref a :: vs) (E := WE W) (F.mono hj) hr hb (L2.passAt tk σ) I2 (.cons rfl r) q2⟩
end
section
variable {K : PySem.W.Frag} {mg mg' : Str → Option Value} {x y : Str} {C D L M : Addr}
theorem ExcAt.self (T : ExcAt K mg x C L) : PySem.W.exmOne K (.ref C) (.ref C) = some true := by
  refine PySem.W.exm_ref T.is_.hs T.is_.hd T.tP ?_
  rw [T.subs]
  congr 1
  simp
end
/-! ### in a comprehension's element -/
theorem call_tuple_ofK {X : Cx} (K : PySem.W.Frag) (h : X.K = K) : CallR X (.type "tuple") (fun xs H Q => ∃ p ys, xs = [.ref p] ∧ ((SqL K H p ys ∧ ∀ l, H l = none → Q (.ref l) (upd H l (.tup ys))) ∨ (SqT K H p ys ∧ Q (.ref p) H))) := h ▸ call_tuple_of
theorem call_list_ofK {X : Cx} (K : PySem.W.Frag) (h : X.K = K) : CallR X (.type "list") (fun xs H Q => ∃ p ys, xs = [.ref p] ∧ (SqL K H p ys ∨ SqT K H p ys) ∧ ∀ l, H l = none → Q (.ref l) (upd H l (.lst ys))) := h ▸ call_list_of
theorem call_len_seqK {X : Cx} (K : PySem.W.Frag) (h : X.K = K) : CallR X (.builtin "len") (fun xs H Q => ∃ p ys, xs = [.ref p] ∧ (SqL K H p ys ∨ SqT K H p ys) ∧ Q (.int ys.length) H) := h ▸ call_len_seq
/-- what stood while something was locked stands behind it -/
theorem lock_same {H H' : Hp} {d : Addr} {od : Obj} {u : HO} (h : H d = some u) (s : Same (upd H d (.frz od u)) H') : Same H (upd H' d u) := fun b o e => by
  by_cases hb : b = d
  · subst hb
    rw [h] at e
    cases e
    exact upd_same
  · rw [upd_ne hb]
    exact s b o (by rw [upd_ne hb]; exact e)
theorem lock_at {H : Hp} {d b : Addr} {od : Obj} {u o : HO} (n : b ≠ d) (h : H b = some o) : upd H d (.frz od u) b = some o := by rw [upd_ne n]; exact h
end Ru

set_option Elab.async false
set_option linter.all false
set_option maxRecDepth 100000
set_option maxHeartbeats 2000000
/-! tuple(reversed(x)), x a tuple -/
namespace Rv
open PySem PySem.Spec PyProof.Rows L2 RT
theorem no_len : typeLookup (.type "reversed") "__len__" = pure none := by rw [typeLookup_type, builtinLookup_eq_fast] <;> kernel_rfl
theorem slot_hint : Slot "reversed" "__length_hint__" "reversed.__length_hint__" := by
  refine .of (owner := "reversed") (n := "__length_hint__") ?_ ?_ ?_ ?_ ?_ ?_
  · rw [typeLookup_type, builtinLookup_eq_fast] <;> kernel_rfl
  · decide +kernel
  · decide +kernel
  · decide +kernel
  · first | exact Or.inl (by decide +kernel) | exact Or.inr (by decide +kernel)
  · rw [isSubtype_type] <;> kernel_rfl
theorem entry_hint : entryFor table "reversed.__length_hint__" = some Builtin.«reversed.__length_hint__» := by exact entryFor_of_tree (by kernel_rfl)
theorem args_hint (a : Value) : argsOk "reversed.__length_hint__" ⟨[a], []⟩ := by
  unfold argsOk
  rw [signature?_of (id := "reversed.__length_hint__") (n := "__length_hint__".toList.reverse) (o := "reversed".toList.reverse) (by kernel_rfl) owner_rt]
  kernel_rfl
/-- the walk back over a tuple -/
theorem walks {prog : Program} {w : World} {A : Around} (hh : A.handled = none) (I t : Addr) (hne : t ≠ I) (xs : Array Value) (hz : xs.size ≤ sizeLine) :
    Walks prog w A I [I, t] [I] xs.size (fun i v => xs[xs.size - 1 - i]? = some v) (fun i h => i ≤ xs.size ∧ IsRt h I t ((xs.size : Int) - 1 - (i : Int)) ∧ IsTup h t xs) := by
  constructor
  · intro b hb
    rw [List.mem_singleton.mp hb]
    exact List.mem_cons_self
  · rintro i h h' ⟨p1, p2, o, ho, p3⟩ hk
    exact ⟨p1, p2.at fun z => hk I List.mem_cons_self z, o, hk t (List.mem_cons_of_mem _ List.mem_cons_self) o ho, p3⟩
  · rintro i s Q E hi ⟨p1, p2, p3⟩ hQ
    have e1 : (xs.size : Int) - 1 - (i : Int) = ((xs.size - 1 - i : Nat) : Int) := by omega
    have e2 : ((xs.size - 1 - i : Nat) : Int) - 1 = (xs.size : Int) - 1 - ((i + 1 : Nat) : Int) := by omega
    have hx : xs[xs.size - 1 - i]? = some (xs[xs.size - 1 - i]'(by omega)) := Array.getElem?_eq_getElem (by omega)
    refine next_rt_item (e1 ▸ p2) p3 hx hz fun h' a b => ?_
    refine hQ _ h' (s.toks + 1) hx ⟨hi, e2 ▸ a, ?_⟩ fun c o hc eo => b.extBut c o (fun z => hc (List.mem_singleton.mpr z)) eo
    exact p3.extBut b.extBut hne
  · rintro s Q E ⟨p1, p2, p3⟩ hQ
    refine next_rt_end hh (show IsRt s.heap I t (-1) from ?_) fun h' a => hQ h' s.toks fun c o hc eo => a c o (fun z => hc (List.mem_singleton.mpr z)) eo
    have e : (xs.size : Int) - 1 - (xs.size : Int) = -1 := by omega
    exact e ▸ p2
  · rintro i s Q E ⟨p1, p2, p3⟩ hQ
    exact iter_rt p2 hQ
section
variable {prog : Program} {w : World} {A : Around} {E : Value → Shared → Prop} {s : Shared} {I t S : Addr} {xs : Array Value}
theorem int_bind {M : Model} {β : Type} {n : Int} {k : Tok} {f : Option Int → Sem β} {Q : β → Shared → Prop} (h : wpAny M A (f (some n)) Q E s) : wpAny M A (asInt? (.int n k) >>= f) Q E s := wpAny_bind (wpAny_of_eq (a := some n) rfl h)
/-- its length_hint -/
theorem hint {Q : Value → Shared → Prop} (p : IsRt s.heap I t ((xs.size : Int) - 1)) (ht : IsTup s.heap t xs) (hz : xs.size ≤ sizeLine)
    (hQ : ∀ k, Q (.int xs.size k) { s with toks := s.toks + 1 + 1 + 1 }) : wpAny (model prog w) A (call (.builtin "reversed.__length_hint__") [.ref I]) Q E s := by
  obtain ⟨o, ho, hc, hd⟩ := id p
  refine wpAny_call_entry slot_hint p.typeIs entry_hint ?_ (args_hint _)
  unfold Builtin.«reversed.__length_hint__»
  refine wpAny_bind (wpAny_of_eq (a := Value.ref I) rfl (wpAny_bind (wpAny_field ho hd (x := .ref t) rfl ?_)))
  have e0 : (Value.ref t == Value.none) = false := rfl
  rw [e0, if_neg Bool.false_ne_true]
  refine wpAny_bind (len_tuple ht (by have := line63; omega) ?_)
  refine wpAny_bind (wpAny_of_eq (a := some ((xs.size : Nat) : Int)) rfl ?_)
  refine wpAny_bind (wpAny_field (s := { s with toks := s.toks + 1 + 1 }) ho hd (x := rawInt ((xs.size : Int) - 1)) rfl ?_)
  show wpAny _ _ (if ((xs.size : Nat) : Int) < (xs.size : Int) - 1 + 1 then _ else _) _ _ _
  rw [if_neg (by omega), show (xs.size : Int) - 1 + 1 = xs.size by omega]
  refine wpAny_bind (wpAny_mkInt (wpAny_pure ⟨_, rfl, hQ _⟩))
/-- drawn to its end -/
theorem coll {Q : List Value → Shared → Prop} (hh : A.handled = none) (p : IsRt s.heap I t ((xs.size : Int) - 1)) (ht : IsTup s.heap t xs) (hne : t ≠ I) (hz : xs.size ≤ sizeLine)
    (hQ : ∀ (h' : Heap) (tk : Nat) (acc : Array Value), (∀ b o, b ≠ I → s.heap.get? b = some o → h'.get? b = some o) → ItemsOf (fun i v => xs[xs.size - 1 - i]? = some v) acc xs.size → Q acc.toList { s with heap := h', toks := tk }) :
    wpAny (model prog w) A (collect (.ref I)) Q E s := by
  have W := (walks (prog := prog) (w := w) (A := A.in1) hh I t hne xs hz).toS
  obtain ⟨oi, hoi, _⟩ := id p
  obtain ⟨ot, hot, _⟩ := id ht
  have nI : s.heap.objs.size ≠ I := Nat.ne_of_gt (Heap.lt_size hoi)
  have nt : s.heap.objs.size ≠ t := Nat.ne_of_gt (Heap.lt_size hot)
  have nf : s.heap.objs.size ∉ [I, t] := fun m => (List.mem_cons.mp m).elim nI fun m => nt (List.mem_singleton.mp m)
  unfold collect
  refine wpAny_bind (wpAny_runValue (codeAny_builtin F.entry_proto_collect ?_))
  rw [Around.under_plainId F.plain_proto_collect _]
  generalize hS : s.heap.objs.size = S at nI nt nf
  show wpAny _ A.in1 (newList [] >>= fun l' => again (.builtin "list.__iadd__" ⟨[l', .ref I], []⟩)) _ _ s
  refine wpAny_bind (wpAny_newObj_type (wpAny_pure ⟨plainId_quiet F.plain_list_iadd _, codeAny_builtin F.entry_list_iadd ?_⟩))
  rw [Around.under_plainId F.plain_list_iadd _, hS]
  have g1 : (s.heap.push { cls := .type "list", data := .seq ([] : List Value).toArray }).get? S = some { cls := .type "list", data := .seq ([] : List Value).toArray } := hS ▸ Heap.get?_push_size _ rfl
  have k1 : ∀ b o, s.heap.get? b = some o → (s.heap.push { cls := .type "list", data := .seq ([] : List Value).toArray }).get? b = some o := fun b o e => Heap.get?_push_of_some _ e
  have p1 : IsRt (s.heap.push { cls := .type "list", data := .seq ([] : List Value).toArray }) I t ((xs.size : Int) - 1) := p.at fun o e => k1 I o e
  have t1 : IsTup (s.heap.push { cls := .type "list", data := .seq ([] : List Value).toArray }) t xs := ht.keeps k1
  show wpAny _ A.in1 (Builtin.List.listExtendWith (.ref S) (.ref I) (.ref S)) _ _ _
  generalize s.heap.push { cls := .type "list", data := .seq ([] : List Value).toArray } = h1 at g1 k1 p1 t1
  have T1 : ({ s with heap := h1 } : Shared).TypeIs (.ref I) "reversed" := IsRt.typeIs (s := { s with heap := h1 }) p1
  unfold Builtin.List.listExtendWith
  have e1 : Builtin.List.listSameRef (.ref S) (.ref I) = false := beq_eq_false_iff_ne.mpr nI
  refine wpAny_bind (wpAny_typeOf T1 ?_)
  rw [if_neg (by rw [e1]; decide)]
  refine wpAny_bind (iter_rt (s := { s with heap := h1 }) p1 ?_)
  refine wpAny_bind (wpAny_holding ?_)
  unfold Builtin.List.listLengthHint
  refine wpAny_bind (wpAny_specialOf T1 no_len ?_)
  show wpAny _ A.in1 (specialOf (Value.ref I) (Str.ofString "__length_hint__") >>= _) _ _ _
  refine wpAny_bind (wpAny_specialOf T1 slot_hint.lookup ?_)
  generalize hi : ("reversed.__length_hint__" : String) = id0
  wp_delta
  rw [show splitId id0 = some ("reversed", "__length_hint__") from by subst hi; decide +kernel]
  subst hi
  refine wpAny_bind (wpAny_isInstance (b := true) T1 (by rw [isSubtype_type]; kernel_rfl) ?_)
  rw [if_neg (by decide)]
  show wpAny _ A.in1 (if _ then _ else _) _ _ _
  rw [if_neg (by decide +kernel)]
  refine wpAny_bind (wpAny_rule ?_)
  rw [slot_hint.bind]
  refine wpAny_bind (wpAny_pure (wpAny_bind (wpAny_attempt (hint (s := { s with heap := h1 }) p1 t1 hz fun k => ?_))))
  show wpAny _ A.in1 (asInt? (.int xs.size k) >>= _) _ _ _
  refine int_bind ?_
  have f1 : Builtin.List.listFitsIndex ((xs.size : Nat) : Int) = true := by
    have := line63
    unfold Builtin.List.listFitsIndex
    rw [Bool.and_eq_true, decide_eq_true_eq, decide_eq_true_eq]
    exact ⟨by omega, by omega⟩
  have f2 : Builtin.List.listTooLong ((xs.size : Nat) : Int).toNat = false := decide_eq_false (by rw [Int.toNat_natCast]; omega)
  dsimp only
  rw [f1, if_neg (by decide), if_neg (by omega), f2, if_neg (by decide)]
  have st : ∀ h2 : Heap, (∀ b o, b ≠ S → h1.get? b = some o → h2.get? b = some o) → 0 ≤ xs.size ∧ IsRt h2 I t ((xs.size : Int) - 1 - ((0 : Nat) : Int)) ∧ IsTup h2 t xs := fun h2 k => by
    refine ⟨Nat.zero_le _, ?_, ?_⟩
    · rw [show (xs.size : Int) - 1 - ((0 : Nat) : Int) = (xs.size : Int) - 1 by omega]
      exact p1.at fun o e => k I o (Ne.symm nI) e
    · obtain ⟨o, ho, r⟩ := t1
      exact ⟨o, k t o (Ne.symm nt) ho, r⟩
  have fin : ∀ (h2 : Heap) (tk : Nat) (s' : Shared) (acc : Array Value) (c : Nat), (∀ b o, b ≠ S → h1.get? b = some o → h2.get? b = some o) → Moved [S, I] (fun a b => b = a) { s with heap := h2, toks := tk } s' →
      s'.heap.get? S = some { cls := .type "list", dict := none, data := .seq acc c, slots := #[] } → ItemsOf (fun i v => xs[xs.size - 1 - i]? = some v) acc xs.size →
      wpAny (model prog w) A (load S >>= fun o => match o.data with
        | .seq xs _ => pure xs.toList
        | _ => unsupported "internal:collect") Q E s' := by
    intro h2 tk s' acc c k hm g hi
    refine wpAny_bind (wpAny_load g (wpAny_pure ?_))
    rw [Moved.eq_with hm]
    refine hQ _ _ acc (fun b o hb e => hm.heap b o (fun m => ?_) (k b o (fun z => ?_) (k1 b o e))) hi
    · rcases List.mem_cons.mp m with z | m
      · exact absurd (Heap.lt_size e) (by rw [hS, z]; exact Nat.lt_irrefl _)
      · exact hb (List.mem_singleton.mp m)
    · exact absurd (Heap.lt_size e) (by rw [hS, z]; exact Nat.lt_irrefl _)
  refine wpAny_pure ?_
  by_cases h0 : xs.size = 0
  · rw [if_neg (by rw [h0]; decide +kernel)]
    exact wpAny_pure ⟨plainId_quiet F.plain_extend_loop _, codeAny_extend_loopS W hz S nf _ xs.size 0 _ _ _ rfl (Nat.zero_le _) (st h1 fun _ _ _ e => e) g1 (ItemsOf.nil _) fun s' acc c hm g hi => fin h1 _ s' acc c (fun _ _ _ e => e) hm g hi⟩
  · rw [if_pos (by rw [show ((xs.size : Int) != 0) = true from by simp [h0]]; rfl)]
    refine wpAny_bind (wpAny_rule (wpAny_bind ?_))
    show wpAny _ A.in1 (updateSeq S (·.push .none) >>= fun _ => updateSeq S (·.pop)) _ _ _
    have z1 : 1 ≤ sizeLine := by have := line63; omega
    refine wpAny_bind (wpAny_updateSeq g1 rfl ?_ (Nat.zero_le _) (Nat.succ_le_succ (Nat.zero_le _)))
    have g2 := Heap.get?_update_self (Obj.mapSeq (·.push Value.none)) g1 rfl
    refine wpAny_updateSeq g2 rfl ?_ z1 (Nat.zero_le _)
    have g3 := Heap.get?_update_self (Obj.mapSeq (·.pop)) g2 rfl
    have k3 : ∀ b o, b ≠ S → h1.get? b = some o → ((h1.update S (Obj.mapSeq (·.push Value.none))).update S (Obj.mapSeq (·.pop))).get? b = some o := fun b o hb e => by
      rw [Heap.get?_update_other _ _ (Ne.symm hb), Heap.get?_update_other _ _ (Ne.symm hb)]
      exact e
    exact wpAny_pure ⟨plainId_quiet F.plain_extend_loop _, codeAny_extend_loopS W hz S nf _ xs.size 0 _ _ _ rfl (Nat.zero_le _) (st _ k3) g3 (ItemsOf.nil _) fun s' acc c hm g hi => fin _ _ s' acc c k3 hm g hi⟩
/-- tuple(it) -/
theorem code {Q₁ : Value → Shared → Prop} (hh : A.handled = none) (p : IsRt s.heap I t ((xs.size : Int) - 1)) (ht : IsTup s.heap t xs) (hne : t ≠ I) (hz : xs.size ≤ sizeLine)
    (h : ∀ (h' : Heap) (tk : Nat) (acc : Array Value), (∀ b o, b ≠ I → s.heap.get? b = some o → h'.get? b = some o) → ItemsOf (fun i v => xs[xs.size - 1 - i]? = some v) acc xs.size →
      Q₁ (.ref h'.objs.size) { s with heap := h'.push { cls := .type "tuple", data := .seq acc }, toks := tk }) :
    codeAny (model prog w) A (.call (.builtin "tuple.__new__") ⟨[.type "tuple", .ref I], []⟩) (wants Q₁ E) s := by
  refine codeAny_of_tree ?_
  show wpAny _ A.in1 (checkBuiltinCall "tuple.__new__" ⟨[.type "tuple", .ref I], []⟩ >>= fun _ => again (.builtin "tuple.__new__" ⟨[.type "tuple", .ref I], []⟩)) _ _ s
  refine wpAny_bind (wpAny_of_eq (F.newCall_tuple_1 _) (wpAny_pure ⟨plainId_quiet F.plain_tuple_new _, codeAny_builtin F.entry_tuple_new ?_⟩))
  rw [Around.under_plainId F.plain_tuple_new _]
  have sub := sub_tuple_self
  have ini := init_tuple_lookup
  have mad := madeHere_tuple
  have T : s.TypeIs (.ref I) "reversed" := p.typeIs
  have h0 : A.in1.handled = none := hh
  wp_walk using wpAny_typeOf T, coll (A := A.in1) h0 p ht hne hz
  intro h' tk acc k hi
  show wpAny _ _ (Builtin.Tuple.tupleExact acc.toList.toArray >>= fun v => ret v) _ _ _
  rw [show acc.toList.toArray = acc by simp]
  unfold Builtin.Tuple.tupleExact
  exact wpAny_bind (wpAny_newObj_type (wpAny_pure (h h' tk acc k hi)) (show acc.size ≤ sizeLine from hi.1.symm ▸ hz))
theorem call {Q : Value → Shared → Prop} (hh : A.handled = none) (p : IsRt s.heap I t ((xs.size : Int) - 1)) (ht : IsTup s.heap t xs) (hne : t ≠ I) (hz : xs.size ≤ sizeLine)
    (hQ : ∀ (h' : Heap) (tk : Nat) (acc : Array Value), (∀ b o, b ≠ I → s.heap.get? b = some o → h'.get? b = some o) → ItemsOf (fun i v => xs[xs.size - 1 - i]? = some v) acc xs.size →
      Q (.ref h'.objs.size) { s with heap := h'.push { cls := .type "tuple", data := .seq acc }, toks := tk }) : wpAny (model prog w) A (PySem.call (.type "tuple") [.ref I]) Q E s := by
  refine callType_codes (Q₁ := fun obj s₁ => s₁.TypeIs obj "tuple" ∧ Q obj s₁) F.called_tuple (F.typeCall_tuple_1 _) F.entry_object_init (code (A := A.in1) hh p ht hne hz fun h' tk acc k hi => ⟨⟨_, Heap.get?_push_size _ rfl, rfl⟩, hQ h' tk acc k hi⟩) ?_
  rintro obj s₁ ⟨h1, h2⟩
  exact ⟨h1, F.args_object_init_2 obj _, object_init_meets F.called_tuple.init.lookup F.called_tuple.made (by decide) prog w A.in1 _ s₁ ⟨h1, rfl, h2⟩⟩
end
/-! ## the rule -/
/-- tuple(reversed(x)), x a tuple: a new tuple -/
def tTupRevT (K : PySem.W.Frag) (te : TE) : TE := fun σ H Q => te σ H fun v H1 => ∃ (a : Addr) (xs : List V), v = .ref a ∧ SqT K H1 a xs ∧ ∀ q, H1 q = none → Q (.ref q) (upd H1 q (.tup xs.reverse))
section
variable {X : Cx}
theorem pe_tupRevT {e : Expr} {te : TE} {p p2 pos pos2 : Pos} (hc : X.calm = true) (hg : Gl X "tuple") (hm : X.mg "tuple" = none) (hg2 : Gl X "reversed") (hm2 : X.mg "reversed" = none) (he : PE X e te)
    (hs : starEach [e] X.env = (false, eval e X.env) :: starEach [] X.env := by rfl)
    (hs2 : starEach [.Call (.Name "reversed" p2) [e] [] pos2] X.env = (false, eval (.Call (.Name "reversed" p2) [e] [] pos2) X.env) :: starEach [] X.env := by rfl) :
    PE X (.Call (.Name "tuple" p) [.Call (.Name "reversed" p2) [e] [] pos2] [] pos) (tTupRevT X.K te) := by
  refine ⟨fun pins s σ H Q I h => ?_⟩
  refine Call_ (ld_blt I hg hm boot_tuple (PyProof.Rows.callWith_type1 (args_cons (Call_ (ld_blt I hg2 hm2 PyProof.Rows.boot_reversed (PyProof.Rows.callWith_type1 (args_cons (thn (he.run pins s σ H _ I h) fun u s1 ⟨v, H1, I1, r1, q1⟩ => args_nil ?_) hs) hs rfl))) hs2) hs2 rfl))
  obtain ⟨a, xs, rfl, hq, q⟩ := q1
  obtain rfl : u = Value.ref a := r1
  obtain ⟨its, rv, t, hz⟩ := I1.tuple hq
  have hl := rv.length
  have hn : its.toArray.size ≤ sizeLine := by rw [List.size_toArray, ← hl]; exact hz
  refine call_reversed_tup t (fun A E Q k => len_tuple t (by have := line63; omega) k) (args_nil ?_)
  have k0 : ∀ b o, s1.heap.get? b = some o → (s1.heap.push (rtObj a ((its.toArray.size : Int) - 1))).get? b = some o := fun b o e => Heap.get?_push_of_some _ e
  have I2 : Inv X pins σ H1 { s1 with heap := s1.heap.push (rtObj a ((its.toArray.size : Int) - 1)), toks := s1.toks + 1 + 1 } := I1.kept (t' := s1.toks + 1 + 1) k0
  obtain ⟨f0, f1, f2, f3, f4, f5⟩ := I1.fpOk (H' := H1) (b := s1.heap.objs.size) (Nat.le_refl _) (I1.hok.fresh (Nat.le_refl _))
  refine call (s := { s1 with heap := s1.heap.push (rtObj a ((its.toArray.size : Int) - 1)), toks := s1.toks + 1 + 1 }) (I1.ok.hd hc) ⟨_, Heap.get?_push_size _ rfl, rfl, rfl⟩ (t.push _) (Nat.ne_of_lt t.lt) hn fun h' tk acc hk hi => ?_
  have I3 : Inv X pins σ H1 { s1 with heap := h', toks := tk } := I2.turned (t' := tk) (fun b o hb e => hk b o hb e) f0 f1 f3 f4 f5
  refine ⟨.ref h'.objs.size, upd H1 h'.objs.size (.tup xs.reverse), I3.laid (t' := tk) (fun c o e => Heap.get?_push_of_some _ e) (Nat.le_refl _) (show ObjOk X.prog X.w _ _ _ (.tup xs.reverse) from ⟨by rw [List.length_reverse]; exact hz, acc.toList, vals_rev rv hi, ?_⟩), rfl, q _ (I3.hok.fresh (Nat.le_refl _))⟩
  rw [Array.toArray_toList]
  exact IsTup.new _ _
end
end Rv

set_option Elab.async false
set_option linter.all false
set_option maxRecDepth 100000
set_option maxHeartbeats 2000000
namespace Hd
open PySem PySem.Spec PyProof.Rows L2 Ru
section
variable {K : PySem.W.Frag} {h : Heap} {mg : Str → Option Value}
theorem g_of (X : K.In h) (G : h.Ns mainGlobals mg) {x : Str} {a : Addr} (c : gB K x a = true) : mg x = some (.ref a) := PySem.W.mg_of X G (He.eqO_ok c)
theorem no_of (X : K.In h) (G : h.Ns mainGlobals mg) {x : Str} (c : noB K x = true) : mg x = none := PySem.W.mg_none_of X G (He.eqO_ok c)
theorem con_of (X : K.In h) (G : h.Ns mainGlobals mg) {x : Str} {v : V} (c : conB K x v = true) : GlobC mg x v := by
  unfold conB at c
  split at c
  · rename_i u e
    exact globC_mk X G e (He.relB_ok c)
  · cases c
theorem tup_of (X : K.In h) (G : h.Ns mainGlobals mg) {x : Str} {vs : List V} (c : tupB K x vs = true) : GlobT K mg x vs := by
  unfold tupB at c
  split at c
  · rename_i a e
    split at c
    · rename_i k od its n sl q
      obtain ⟨c1, c⟩ := two c
      obtain ⟨c2, c3⟩ := two c
      have ek := of_decide_eq_true c1
      subst ek
      exact globT_mk X G e q (of_decide_eq_true c2) (He.relAll_ok c3)
    · cases c
  · cases c
theorem cls_of (X : K.In h) (G : h.Ns mainGlobals mg) {x : Str} {C : Addr} (c : clsB K x C = true) : ClsAt K mg x C := by
  obtain ⟨a, c⟩ := two c
  obtain ⟨b, c⟩ := two c
  obtain ⟨d, c⟩ := two c
  obtain ⟨e, c⟩ := two c
  obtain ⟨f, c⟩ := two c
  obtain ⟨i, c⟩ := two c
  obtain ⟨j, c⟩ := two c
  obtain ⟨k, c⟩ := two c
  obtain ⟨l, c⟩ := two c
  obtain ⟨m, n⟩ := two c
  exact clsAt_mk X G (He.eqO_ok a) b d e (He.eqO_ok f) (He.eqO_ok i) (He.eqO_ok j) (of_decide_eq_true k) (of_decide_eq_true l) m n
theorem err_of (X : K.In h) (G : h.Ns mainGlobals mg) {x : Str} {C : Addr} (c : errB K x C = true) : ErrAt K mg x C := by
  obtain ⟨a, c⟩ := two c
  obtain ⟨b, c⟩ := two c
  obtain ⟨d, e⟩ := two c
  exact errAt_mk X G (He.eqO_ok a) (of_decide_eq_true b) (of_decide_eq_true d) e
theorem exc_of (X : K.In h) (G : h.Ns mainGlobals mg) {x : Str} {C L : Addr} (c : excB K x C L = true) : ExcAt K mg x C L := by
  obtain ⟨a, c⟩ := two c
  obtain ⟨b, c⟩ := two c
  obtain ⟨d, c⟩ := two c
  obtain ⟨e, c⟩ := two c
  obtain ⟨f, c⟩ := two c
  obtain ⟨i, c⟩ := two c
  obtain ⟨j, c⟩ := two c
  obtain ⟨k, c⟩ := two c
  obtain ⟨l, c⟩ := two c
  obtain ⟨m, c⟩ := two c
  obtain ⟨n, c⟩ := two c
  obtain ⟨o, p⟩ := two c
  unfold mroB at p
  split at p
  · rename_i cd q
    exact excAt_mk X G (He.eqO_ok a) b d (He.eqO_ok e) (He.eqO_ok f) (of_decide_eq_true i) j (He.eqO_ok k) (He.eqO_ok l) (of_decide_eq_true m) (of_decide_eq_true n) (of_decide_eq_true o) q (of_decide_eq_true p)
  · cases p
theorem na_of {C : Addr} {x : Str} (c : naB K C x = true) : NoAttr K C x := He.eqO_ok c
theorem one_of {a b : Addr} {r : Bool} (c : oneB K a b r = true) : PySem.W.kitOne K (.ref a) (.ref b) = some r := of_decide_eq_true c
/-! ## defs -/
theorem def_of (X : K.In h) (G : h.Ns mainGlobals mg) {x : Str} {st : Stmt} {ps : List Str} {f : Addr} (c : gB K x f = true) (F : ∃ fd, FunD K x x (defArgs st) (defBody st) (defScope st) [] [] f fd)
    (b : ∀ (kV doc pm : Value) (an : Option Addr) (cdv ct : Value) (us : List Value), us.length = ps.length → bindArgs (PySem.W.fnOf x x (defArgs st) (defBody st) (defScope st) .none kV doc pm an cdv ct) ⟨us, []⟩ = pure (ps.zip us)) : DefAt K mg x st ps := by
  obtain ⟨fd, F⟩ := F
  obtain ⟨⟨oc, od, kV, doc, pm, an, cdv, ct, osl, e, l, k⟩, kp⟩ := He5.fun_of F
  subst e
  exact defAt_mk X G (He.eqO_ok c) l k kp (b kV doc pm an cdv ct)
theorem law_of (X : K.In h) (G : h.Ns mainGlobals mg) {st : Stmt} {p : Str} {f : Addr} (c : gB K "law" f = true) (F : ∃ fd, FunD K "law" "law" (defArgs st) (defBody st) (defScope st) [] [] f fd)
    (b : ∀ (kV doc pm : Value) (an : Option Addr) (cdv ct : Value) (u : Value), bindArgs (PySem.W.fnOf "law" "law" (defArgs st) (defBody st) (defScope st) .none kV doc pm an cdv ct) ⟨[u], []⟩ = pure [(p, u)]) : LawAt K mg st p := by
  obtain ⟨fd, F⟩ := F
  obtain ⟨⟨oc, od, kV, doc, pm, an, cdv, ct, osl, e, l, k⟩, kp⟩ := He5.fun_of F
  subst e
  exact lawAt_mk X G (He.eqO_ok c) l k kp (b kV doc pm an cdv ct)
theorem met_of {C : Addr} {m qual : Str} {st : Stmt} {ps : List Str} (c : metB K C m = true) (F : ∃ fd, FunD K m qual (defArgs st) (defBody st) (defScope st) [] [] (He.ma K C m) fd)
    (b : ∀ (kV doc pm : Value) (an : Option Addr) (cdv ct : Value) (us : List Value), us.length = ps.length → bindArgs (PySem.W.fnOf m qual (defArgs st) (defBody st) (defScope st) .none kV doc pm an cdv ct) ⟨us, []⟩ = pure (ps.zip us)) : MethAt K C m qual st ps := by
  obtain ⟨fd, F⟩ := F
  obtain ⟨c1, c⟩ := two c
  obtain ⟨c2, c3⟩ := two c
  obtain ⟨⟨oc, od, kV, doc, pm, an, cdv, ct, osl, e, l, k⟩, kp⟩ := He5.fun_of F
  subst e
  exact methAt_mk (He.eqO_ok c1) c2 l k kp (b kV doc pm an cdv ct)
theorem cfn_of {C : Addr} {m qual : Str} {st : Stmt} {ps : List Str} (c : cfnB K C m = true) (F : ∃ fd, FunD K m qual (defArgs st) (defBody st) (defScope st) [] [] (ca K C m) fd)
    (b : ∀ (kV doc pm : Value) (an : Option Addr) (cdv ct : Value) (us : List Value), us.length = ps.length → bindArgs (PySem.W.fnOf m qual (defArgs st) (defBody st) (defScope st) .none kV doc pm an cdv ct) ⟨us, []⟩ = pure (ps.zip us)) : ClsFnAt K C m qual st ps := by
  obtain ⟨fd, F⟩ := F
  obtain ⟨c1, c⟩ := two c
  obtain ⟨c2, c3⟩ := two c
  obtain ⟨⟨oc, od, kV, doc, pm, an, cdv, ct, osl, e, l, k⟩, kp⟩ := He5.fun_of F
  subst e
  refine clsFnAt_mk c1 (He.eqO_ok c2) ?_ l k kp (b kV doc pm an cdv ct)
  unfold ca
  split at c3
  · rename_i f q
    rw [q]
  · cases c3
end
/-! ## a law's end -/
theorem walk {l : PySem.W.OpenLaw} {q : Program} {loose : List Str} {XP : (Str → Option Value) → Heap → Prop} {d : DefRec} {n : List Addr} {k : Nat} {p : Str} {B : PySem.W.Frag → List Bool} {fn : List He5.DefA} (hr : Room k callerA) (hn : l.most = some 63) (hdf : d.params.defaults = []) (hd : d.name = ("law" : Str))
    (F : ∀ (w : World) (mg : Str → Option Value) (fa : Addr) (h : Heap) (K : PySem.W.Frag), K.In h → h.Ns mainGlobals mg → mg "law" = some (.ref fa) → Says B fn K →
      ∃ fd : FuncData, (∀ (s : Shared) (u : Value), BindsTo s fd ⟨[u], []⟩ [(p, u)]) ∧ ∀ base : Heap, K.In base → base.Ns mainGlobals mg → FnOk l.prog w K mg base CX0 k fa fd [p] (spLaw K)) :
    PySem.W.WalkO q loose XP (hook n B fn).says l.row.toRowW d [] (fun f vs => PySem.call f vs) :=
  L2.walk_ofE (n := 63) (CX := CX0) hn (by decide) hdf hr (fun w mg fa h Y G hmg => by
    obtain ⟨K, X, c⟩ := Y
    rw [hd] at hmg
    obtain ⟨fd, hb, ok⟩ := F w mg fa h K X G hmg c
    exact ⟨K, fd, spLaw K, X, hb, fun H a ns hl _ hS => ⟨a, ns, rfl, hS, hl, fun _ => rfl⟩, ok⟩) fun _ _ _ _ z => z
end Hd

set_option Elab.async false
set_option linter.all false
set_option maxRecDepth 100000
set_option maxHeartbeats 2000000
section
open PySem L2 Ru
local macro_rules | `(tactic| walk_at "rd") => `(tactic| try simp only [tSeq, tAsg, gName, tVar, tC, tOp, rI, rI0, tRet, tDrop, tIfS, tTest, tB, tAndV, tOrV, tNotV, tAnd, tOr, tNot, tIf, tCall, tCons, tNil, tCB, tAug, rEq, rNe, tNext, tRetN, L2.start, List.map_cons, List.map_nil, List.length_cons, List.length_nil, List.replicate, List.cons_append, List.nil_append, List.append_nil, List.getElem?_cons_zero, List.getElem?_cons_succ, List.set_cons_zero, List.set_cons_succ, Option.some.injEq, V.int.injEq, V.str.injEq, V.bl.injEq, V.ref.injEq, List.cons.injEq, exists_eq_left, exists_eq_left', exists_eq_right, exists_and_left, exists_const, true_and, and_true, CDiv, CMul, Int.reduceLT, Int.reduceLE, Int.reducePow, Int.reduceNeg, true_or, or_true, wipe, gcons_eq, gnil_eq, cxOf_K, tSl, rSlS, tLst, tTup, rIsF, isBlV, isIntV, flat_s, flat_i, flat_b, flat_n, rIsB, rNotB, tPart, tNoPart, rIxS, reduceCtorEq, false_and, and_false, false_or, or_false, scal_ii, scal_bb, scal_ss, scal_sb, scal_bs, decide_true, decide_false, if_true, if_false, Bool.false_eq_true, Bool.not_true, Bool.not_false, ite_true, ite_false])

namespace My
def top (i : Nat) : Stmt := PySem.Challenge.pw_rungworks_k24_whole_plain_reading.main.body.getD i (.Pass ⟨0, 0, 0, 0⟩)
/-! ## names -/
def isLow (c : Nat) : Bool := decide (97 ≤ c ∧ c ≤ 122)
def isWord (z : Str) : Bool := z.cps.toList.all isLow && !z.cps.toList.isEmpty
abbrev sSIGNS : Str := "abcdefghijklmnopqrstuvwxyz"
def keptL : List Str := ["on", "off", "and", "or", "not", "set", "reset", "timer", "counter", "inputs", "outputs"]
def keptV : List V := keptL.map V.str
def isName (z : Str) : Bool := isWord z && decide (z.length ≤ 8) && !decide (z ∈ keptL)
theorem signs_cps : sSIGNS.cps.toList = (List.range 26).map (· + 97) := by decide +kernel
theorem mem_signs {c : Nat} : c ∈ sSIGNS.cps.toList ↔ isLow c = true := by
  rw [signs_cps, List.mem_map]
  unfold isLow
  rw [decide_eq_true_eq]
  constructor
  · rintro ⟨a, h, rfl⟩
    rw [List.mem_range] at h
    omega
  · intro h
    exact ⟨c - 97, List.mem_range.mpr (by omega), by omega⟩
theorem dec_signs {c : Nat} : decide (c ∈ sSIGNS.cps.toList) = isLow c := by
  rw [Bool.eq_iff_iff, decide_eq_true_eq]
  exact mem_signs
theorem inV_strs (z : Str) : ∀ l : List Str, inV (.str z) (l.map V.str) = decide (z ∈ l)
  | [] => by simp [inV]
  | x :: l => by
    have ih := inV_strs z l
    unfold inV at ih ⊢
    rw [List.map_cons, List.any_cons, ih]
    rw [Bool.eq_iff_iff]
    simp [eqV]
    constructor
    · rintro (h | h)
      · exact .inl h.symm
      · exact .inr h
    · rintro (h | h)
      · exact .inl h.symm
      · exact .inr h
theorem flat_strs : ∀ l : List Str, (l.map V.str).all flatV = true
  | [] => rfl
  | x :: l => by rw [List.map_cons, List.all_cons, flat_strs l]; rfl
theorem isWord_ne {z : Str} : (z ≠ ("" : Str)) ↔ z.cps.toList.isEmpty = false := by
  obtain ⟨a⟩ := z
  have e : ("" : Str) = ⟨#[]⟩ := by decide +kernel
  rw [e]
  cases h : a.toList with
  | nil =>
    have : a = #[] := by
      apply Array.ext'
      rw [h]
    subst this
    simp
  | cons x r =>
    refine ⟨fun _ => rfl, fun _ q => ?_⟩
    have q' : a = #[] := by injection q
    subst q'
    cases h
def spIsWord : Sp := fun vs H Q _ => ∃ z : Str, vs = [.str z] ∧ Q (.bl (isWord z)) H
def spIsName : Sp := fun vs H Q _ => ∃ z : Str, vs = [.str z] ∧ z.length ≤ sizeLine ∧ Q (.bl (isName z)) H
abbrev s_is_word : Stmt := top 12
theorem sc_is_word : FnScope ["text", "sign"] ["text"] (defScope s_is_word) := ⟨rfl, rfl, rfl, by decide +kernel, rfl, by decide +kernel, by decide +kernel⟩
abbrev s_is_name : Stmt := top 13
theorem sc_is_name : FnScope ["name"] ["name"] (defScope s_is_name) := ⟨rfl, rfl, rfl, by decide +kernel, rfl, by decide +kernel, by decide +kernel⟩
structure TNames (K : PySem.W.Frag) (mg : Str → Option Value) : Prop where
  d_is_word : DefAt K mg "is_word" s_is_word ["text"]
  d_is_name : DefAt K mg "is_name" s_is_name ["name"]
  g_SIGNS : GlobC mg "SIGNS" (.str sSIGNS)
  g_MOST_SIGNS : GlobC mg "MOST_SIGNS" (.int 8)
  g_KEPT : GlobT K mg "KEPT" keptV
  z_len : mg "len" = none
section
variable {P : Program} {w : World} {K : PySem.W.Frag} {mg : Str → Option Value} {base : Heap}
theorem ok_is_word (T : TNames K mg) : FnAt P w K mg base CX0 "is_word" 1 ["text"] spIsWord := by
  refine fnAt_ok T.d_is_word sc_is_word (fun vs H Q E h => ?_) (fun f cdv A outer s H vs Q E hr h => ?_)
  · obtain ⟨z, rfl, _⟩ := h; rfl
  · obtain ⟨z, rfl, k⟩ := h
    refine ⟨_, (pss_cons (ps_for PassesOwn.never rfl (pi_str (pv 0)) (pg_name (i := 1) sc_is_word.nd rfl (by first | exact Or.inl rfl | exact Or.inr rfl)) (pss_one (ps_if (pt_cmpR op_notIn_sign (pv 1) (pe_gc T.g_SIGNS) rfl) (pss_one (ps_ret pe_bl)) pss_nil)))
        (pss_one (ps_ret (pe_cmpR op_ne (pv 0) pe_str (nomark _))))), ?_⟩
    refine ⟨_, rfl, z, rfl, for_str (x := z) (fun i σ H' => ∃ v, σ = [some (.str z), v] ∧ H' = H ∧ (z.cps.toList.take i).all isLow = true) ⟨none, rfl, rfl, rfl⟩ ?_ ?_⟩
    · rintro i c σ H' hi ⟨v, rfl, rfl, hp⟩
      have hi' : z.cps.toList[i]? = some c := by simpa using hi
      walk_at "rd"
      refine ⟨c, rfl, ?_⟩
      rw [dec_signs]
      by_cases hc : isLow c = true
      · rw [hc]
        simp only [Bool.not_true, Bool.false_eq_true, if_false]
        rw [List.take_succ, hi', List.all_append, hp]
        simp [hc]
      · have hc' : isLow c = false := by simpa using hc
        rw [hc']
        refine iteT ?_
        have e : isWord z = false := by
          unfold isWord
          rw [Bool.and_eq_false_iff]
          left
          rw [List.all_eq_false]
          exact ⟨c, List.mem_of_getElem? hi', by simp [hc']⟩
        rw [e] at k
        exact k
    · rintro σ H' ⟨v, rfl, rfl, hp⟩
      walk_at "rd"
      have e : (!decide (z = "")) = isWord z := by
        unfold isWord
        have hp' : z.cps.toList.all isLow = true := by
          have : z.cps.toList.take z.cps.size = z.cps.toList := by
            rw [List.take_of_length_le]
            simp
          rw [this] at hp
          exact hp
        rw [hp', Bool.true_and, Bool.eq_iff_iff]
        simp only [Bool.not_eq_true', decide_eq_false_iff_not]
        exact isWord_ne
      rw [e]
      exact k
theorem ok_is_name (T : TNames K mg) : FnAt P w K mg base CX0 "is_name" 2 ["name"] spIsName := by
  have G_is_word : FnAt P w K mg base CX0 "is_word" 1 _ spIsWord := ok_is_word T
  refine fnAt_ok T.d_is_name sc_is_name (fun vs H Q E h => ?_) (fun f cdv A outer s H vs Q E hr h => ?_)
  · obtain ⟨z, rfl, _⟩ := h; rfl
  · obtain ⟨z, rfl, hz, k⟩ := h
    refine ⟨_, (pss_one (ps_ret (pe_and (pe_callF G_is_word hr pass0 (pa_cons (pv 0) pa_nil)) (pe_and (pe_cmpR op_le (pe_callB call_len_str (by rfl) T.z_len PySem.boot_len (pa_cons (pv 0) pa_nil)) (pe_gc T.g_MOST_SIGNS) (nomark _)) (pe_one (pe_cmp (pc_notInK T.g_KEPT (pv 0)))))))), ?_⟩
    walk_at "rd"
    refine ⟨z, rfl, ?_⟩
    unfold isName at k
    cases hw : isWord z with
    | false =>
      rw [hw] at k
      exact ⟨false, rfl, iteF k⟩
    | true =>
      rw [hw] at k
      refine ⟨true, rfl, iteT ⟨hz, ?_⟩⟩
      by_cases hl : z.length ≤ 8
      · have hl' : ((z.length : Nat) : Int) ≤ 8 := by omega
        rw [decide_eq_true hl']
        refine iteT ⟨flat_strs _, ?_⟩
        unfold keptV
        rw [inV_strs]
        rw [decide_eq_true hl] at k
        exact k
      · have hl' : ¬ ((z.length : Nat) : Int) ≤ 8 := by omega
        rw [decide_eq_false hl']
        rw [decide_eq_false hl] at k
        exact iteF k
end

/-! ## cells as they are -/
def cellAt (ns : List Int) (k : Int) : Int := ns.getD k.toNat 0
def mixed (c k : Int) : Int := (((c + 7919 * k + 11) * 48271 % 2147483647) * ((c + 7919 * k + 11) * 48271 % 2147483647) + 40692 * ((c + 7919 * k + 11) * 48271 % 2147483647)) % 2147483399
theorem mixed_nn (c k : Int) : 0 ≤ mixed c k := Int.emod_nonneg _ (by decide)
theorem mixed_lt (c k : Int) : mixed c k < 2147483399 := Int.emod_lt_of_pos _ (by decide)
theorem letters_at {j : Int} (h0 : 0 ≤ j) (h1 : j < 26) : atI (("abcdefghijklmnopqrstuvwxyz" : Str)).cps.toList j = some (97 + j.toNat) := by
  have e : ("abcdefghijklmnopqrstuvwxyz" : Str).cps.toList = (List.range 26).map (97 + ·) := by decide +kernel
  rw [e]
  refine atI_int h0 ?_
  rw [List.getElem?_map, List.getElem?_range (by omega)]
  rfl
def spCellAt (K : PySem.W.Frag) : Sp := fun vs H Q _ => ∃ (a : Addr) (ns : List Int) (k : Int), vs = [.ref a, .int k] ∧ SqL K H a (ns.map V.int) ∧ 0 ≤ k ∧ Q (.int (cellAt ns k)) H
def spMixed : Sp := fun vs H Q _ => ∃ c k : Int, vs = [.int c, .int k] ∧ Q (.int (mixed c k)) H
abbrev s__law_cell_at : Stmt := top 51
theorem sc__law_cell_at : FnScope ["_law_script", "_law_k"] ["_law_script", "_law_k"] (defScope s__law_cell_at) := ⟨rfl, rfl, rfl, by decide +kernel, rfl, by decide +kernel, by decide +kernel⟩
abbrev s__law_mixed : Stmt := top 52
theorem sc__law_mixed : FnScope ["_law_cell", "_law_k", "_law_mix"] ["_law_cell", "_law_k"] (defScope s__law_mixed) := ⟨rfl, rfl, rfl, by decide +kernel, rfl, by decide +kernel, by decide +kernel⟩
structure TCells (K : PySem.W.Frag) (mg : Str → Option Value) : Prop where
  d_cell_at : DefAt K mg "_law_cell_at" s__law_cell_at ["_law_script", "_law_k"]
  d_mixed : DefAt K mg "_law_mixed" s__law_mixed ["_law_cell", "_law_k"]
  z_len : mg "len" = none
section
variable {P : Program} {w : World} {K : PySem.W.Frag} {mg : Str → Option Value} {base : Heap}
theorem ok_cell_at (T : TCells K mg) : FnAt P w K mg base CX0 "_law_cell_at" 1 ["_law_script", "_law_k"] (spCellAt K) := by
  refine fnAt_ok T.d_cell_at sc__law_cell_at (fun vs H Q E h => ?_) (fun f cdv A outer s H vs Q E hr h => ?_)
  · obtain ⟨a, ns, k, rfl, _⟩ := h; rfl
  · obtain ⟨a, ns, n, rfl, hs, h0, k⟩ := h
    refine ⟨_, (pss_cons (ps_if (pt_cmpR op_lt (pv 1) (pe_callB call_len_seq (by rfl) T.z_len PySem.boot_len (pa_cons (pv 0) pa_nil)) (nomark _)) (pss_one (ps_ret (pe_ix ix_list (pv 0) (pv 1) (fun _ _ => rfl)))) pss_nil)
        (pss_one (ps_ret pe_int))), ?_⟩
    walk_at "rd"
    refine ⟨_, .inl hs, ?_⟩
    rw [List.length_map]
    unfold cellAt at k
    by_cases hl : n < (ns.length : Int)
    · rw [decide_eq_true hl]
      have hn : n.toNat < ns.length := by omega
      refine iteT ⟨a, _, _, .int ns[n.toNat], rfl, rfl, hs, ?_, ?_⟩
      · exact atI_int h0 (by rw [List.getElem?_map, List.getElem?_eq_getElem hn]; rfl)
      · rw [List.getD_eq_getElem?_getD, List.getElem?_eq_getElem hn] at k
        exact k
    · rw [decide_eq_false hl]
      have hn : ns.length ≤ n.toNat := by omega
      refine iteF ?_
      rw [List.getD_eq_getElem?_getD, List.getElem?_eq_none hn] at k
      exact k
theorem ok_mixed (T : TCells K mg) : FnAt P w K mg base CX0 "_law_mixed" 1 ["_law_cell", "_law_k"] spMixed := by
  refine fnAt_ok T.d_mixed sc__law_mixed (fun vs H Q E h => ?_) (fun f cdv A outer s H vs Q E hr h => ?_)
  · obtain ⟨c, k, rfl, _⟩ := h; rfl
  · obtain ⟨c, n, rfl, k⟩ := h
    refine ⟨_, (pss_cons (ps_set (i := 2) sc__law_mixed.nd rfl (by first | exact Or.inl rfl | exact Or.inr rfl) (pe_op op_mod (pe_op op_mul (pe_op op_add (pe_op op_add (pv 0) (pe_op op_mul pe_int (pv 1))) pe_int) pe_int) pe_int))
        (pss_one (ps_ret (pe_op op_mod (pe_op op_add (pe_op op_mul (pv 2) (pv 2)) (pe_op op_mul pe_int (pv 2))) pe_int)))), ?_⟩
    walk_at "rd"
    have h1 : 0 ≤ (c + 7919 * n + 11) * 48271 % 2147483647 := Int.emod_nonneg _ (by decide)
    have h2 : (c + 7919 * n + 11) * 48271 % 2147483647 < 2147483647 := Int.emod_lt_of_pos _ (by decide)
    exact ⟨.inl ⟨by omega, by omega⟩, k⟩
end

--%% N1
/-! ## 28 names about one place of a word -/
def signB (c : Int) (k : Nat) : Nat := 97 + (mixed c (k + 20) / 7 % 26).toNat
def wordB (c : Int) (n : Nat) : List Nat := (List.range n).map (signB c)
theorem wordB_len (c : Int) (n : Nat) : (wordB c n).length = n := by simp [wordB]
theorem wordB_succ (c : Int) (n : Nat) : wordB c (n + 1) = wordB c n ++ [signB c n] := by simp [wordB, List.range_succ]
theorem wordB_low (c : Int) (n : Nat) : ∀ x ∈ wordB c n, 97 ≤ x ∧ x ≤ 122 := by
  intro x hx
  obtain ⟨k, _, rfl⟩ := List.mem_map.mp hx
  unfold signB
  have h1 : 0 ≤ mixed c (k + 20) / 7 % 26 := Int.emod_nonneg _ (by decide)
  have h2 : mixed c (k + 20) / 7 % 26 < 26 := Int.emod_lt_of_pos _ (by decide)
  omega
def sixL : List Str := ["on", "or", "set", "time", "not", "count"]
def bBase (c : Int) : List Nat := if c / 42 % 2 = 0 then wordB c (c % 7).toNat else (sixL.getD (c / 7 % 6).toNat "").cps.toList
def bAt (c : Int) : Nat := (mixed c 40 / 3 % 7).toNat
/-- what is put in -/
def insB (k : Nat) : List Nat := [("bghjklqvwxyz" : Str).cps.toList.getD (k % 12) 0] ++ ([[], [107], [118]].getD (k / 12) [])
def bName (c : Int) (k : Nat) : Str := mkS ((bBase c).take (bAt c) ++ insB k ++ (bBase c).drop (bAt c))
def bNames (c : Int) : List Str := (List.range 28).map (bName c)
theorem six_ok : ∀ z ∈ sixL, z.cps.toList.length ≤ 6 ∧ ∀ x ∈ z.cps.toList, 97 ≤ x ∧ x ≤ 122 := by decide +kernel
theorem bBase_ok (c : Int) : (bBase c).length ≤ 6 ∧ ∀ x ∈ bBase c, 97 ≤ x ∧ x ≤ 122 := by
  unfold bBase
  split
  · have h1 : 0 ≤ c % 7 := Int.emod_nonneg _ (by decide)
    have h2 : c % 7 < 7 := Int.emod_lt_of_pos _ (by decide)
    exact ⟨by rw [wordB_len]; omega, wordB_low _ _⟩
  · have h1 : 0 ≤ c / 7 % 6 := Int.emod_nonneg _ (by decide)
    have h2 : c / 7 % 6 < 6 := Int.emod_lt_of_pos _ (by decide)
    have h3 : (c / 7 % 6).toNat < sixL.length := by show _ < 6; omega
    refine six_ok _ ?_
    rw [List.getD_eq_getElem?_getD, List.getElem?_eq_getElem h3]
    exact List.getElem_mem h3
theorem insB_ok : ∀ k < 28, (insB k).length ≤ 2 ∧ 1 ≤ (insB k).length ∧ ∀ x ∈ insB k, 97 ≤ x ∧ x ≤ 122 := by decide +kernel
theorem insB_inj : ∀ k < 28, ∀ j < 28, insB k = insB j → k = j := by decide +kernel
/-- no kept word has such a sign -/
theorem insB_odd : ∀ k < 28, ∃ x ∈ insB k, ∀ z ∈ keptL, x ∉ z.cps.toList := by decide +kernel
theorem bName_len (c : Int) (k : Nat) : (bName c k).length = (bBase c).length + (insB k).length := by
  unfold bName
  rw [mkS_len, List.length_append, List.length_append]
  have := congrArg List.length (List.take_append_drop (bAt c) (bBase c))
  rw [List.length_append] at this
  omega
theorem bName_ok (c : Int) {k : Nat} (hk : k < 28) : isName (bName c k) = true := by
  obtain ⟨h1, h2⟩ := bBase_ok c
  obtain ⟨h3, h4, h5⟩ := insB_ok k hk
  obtain ⟨x, hx, hz⟩ := insB_odd k hk
  have hl : ∀ y ∈ (bBase c).take (bAt c) ++ insB k ++ (bBase c).drop (bAt c), 97 ≤ y ∧ y ≤ 122 := by
    intro y hy
    rcases List.mem_append.mp hy with hy | hy
    · rcases List.mem_append.mp hy with hy | hy
      · exact h2 y (List.mem_of_mem_take hy)
      · exact h5 y hy
    · exact h2 y (List.mem_of_mem_drop hy)
  unfold isName
  have e1 : isWord (bName c k) = true := by
    unfold isWord bName
    rw [tl_mkS, Bool.and_eq_true]
    refine ⟨List.all_eq_true.mpr fun y hy => decide_eq_true (hl y hy), ?_⟩
    rw [Bool.not_eq_true', List.isEmpty_eq_false_iff]
    intro e
    have := congrArg List.length e
    simp at this
    have : (insB k).length = 0 := by rw [this.2.1]; rfl
    omega
  have e2 : (bName c k).length ≤ 8 := by rw [bName_len]; omega
  have e3 : bName c k ∉ keptL := fun h => hz _ h (by
    unfold bName
    rw [tl_mkS]
    exact List.mem_append_left _ (List.mem_append_right _ hx))
  rw [e1, decide_eq_true e2, decide_eq_false e3]
  rfl
theorem bName_inj (c : Int) {k j : Nat} (hk : k < 28) (hj : j < 28) (h : bName c k = bName c j) : k = j := by
  have h := mkS_inj h
  exact insB_inj k hk j hj (List.append_cancel_left (List.append_cancel_right h))
theorem bNames_len (c : Int) : (bNames c).length = 28 := by simp [bNames]
theorem bNames_ok (c : Int) : ∀ n ∈ bNames c, isName n = true := by
  intro n hn
  obtain ⟨k, hk, rfl⟩ := List.mem_map.mp hn
  exact bName_ok c (List.mem_range.mp hk)
theorem bNames_nodup (c : Int) : (bNames c).Nodup := nodup_map_range fun i j hi hj e => bName_inj c hi hj e
theorem bNames_at (c : Int) {k : Nat} (hk : k < 28) : (bNames c)[k]? = some (bName c k) := by
  unfold bNames
  rw [List.getElem?_map, List.getElem?_range hk]
  rfl
abbrev s__law_word : Stmt := top 53
theorem sc__law_word : FnScope ["_law_cell", "_law_size", "_law_word_here", "_law_k"] ["_law_cell", "_law_size"] (defScope s__law_word) := ⟨rfl, rfl, rfl, by decide +kernel, rfl, by decide +kernel, by decide +kernel⟩
abbrev s__law_names : Stmt := top 54
theorem sc__law_names : FnScope ["_law_cell", "_law_base", "_law_at", "_law_signs", "_law_k"] ["_law_cell"] (defScope s__law_names) := ⟨rfl, rfl, rfl, by decide +kernel, rfl, by decide +kernel, by decide +kernel⟩
structure TBNames (K : PySem.W.Frag) (mg : Str → Option Value) : Prop where
  cells : TCells K mg
  d_word : DefAt K mg "_law_word" s__law_word ["_law_cell", "_law_size"]
  d_names : DefAt K mg "_law_names" s__law_names ["_law_cell"]
  z_range : mg "range" = none
section
variable {P : Program} {w : World} {K : PySem.W.Frag} {mg : Str → Option Value} {base : Heap}
def spWordB : Sp := fun vs H Q _ => ∃ c n : Int, vs = [.int c, .int n] ∧ 0 ≤ n ∧ n ≤ 1000 ∧ Q (.str (mkS (wordB c n.toNat))) H
theorem ok_wordB (T : TBNames K mg) : FnAt P w K mg base CX0 "_law_word" 2 ["_law_cell", "_law_size"] spWordB := by
  have G__law_mixed : FnAt P w K mg base CX0 "_law_mixed" 1 _ spMixed := ok_mixed T.cells
  refine fnAt_ok T.d_word sc__law_word (fun vs H Q E h => ?_) (fun f cdv A outer s H vs Q E hr h => ?_)
  · obtain ⟨c, k, rfl, _⟩ := h; rfl
  · obtain ⟨c, n, rfl, hn0, hn, k⟩ := h
    refine ⟨_, (pss_cons (ps_set (i := 2) sc__law_word.nd rfl (by first | exact Or.inl rfl | exact Or.inr rfl) pe_str)
        (pss_cons (ps_for PassesOwn.never rfl (pi_range1 rfl T.z_range (pa_cons (pv 1) pa_nil)) (pg_name (i := 3) sc__law_word.nd rfl (by first | exact Or.inl rfl | exact Or.inr rfl)) (pss_one (ps_set (i := 2) sc__law_word.nd rfl (by first | exact Or.inl rfl | exact Or.inr rfl) (pe_op op_add_str (pv 2) (pe_ix ix_str pe_str (pe_op op_mod (pe_op op_fdiv (pe_callF G__law_mixed hr pass0 (pa_cons (pv 0) (pa_cons (pe_op op_add (pv 3) pe_int) pa_nil))) pe_int) pe_int) (fun _ _ => rfl))))))
        (pss_one (ps_ret (pv 2))))), ?_⟩
    walk_at "rd"
    refine ⟨_, rfl, _, rfl, by omega, by omega, for_range (lo := 0) (n := n.toNat) (fun i σ H' => ∃ v, σ = [some (.int c), some (.int n), some (.str (mkS (wordB c i))), v] ∧ H' = H) ⟨none, by rw [empty_mk]; rfl, rfl⟩ ?_ ?_⟩
    · rintro i σ H' hi ⟨v, rfl, rfl⟩
      walk_at "rd"
      have h1 : 0 ≤ mixed c ((i : Nat) + 20) / 7 % 26 := Int.emod_nonneg _ (by decide)
      have h2 : mixed c ((i : Nat) + 20) / 7 % 26 < 26 := Int.emod_lt_of_pos _ (by decide)
      rw [Int.zero_add]
      refine ⟨_, _, rfl, _, rfl, by decide +kernel, _, letters_at h1 h2, ?_, _, ⟨?_, rfl⟩, rfl⟩
      · rw [mkS_one, mkS_len, mkS_len, wordB_len, sizeLine_eq]
        simp
        omega
      · rw [mkS_one, mkS_app, wordB_succ]
        rfl
    · rintro σ H' ⟨v, rfl, rfl⟩
      walk_at "rd"
      exact k
def spBNames : Sp := fun vs H Q _ => ∃ c : Int, vs = [.int c] ∧ ∀ (H' : Hp) (p : Addr), Same H H' → H p = none → H' p = some (.lst ((bNames c).map V.str)) → Q (.ref p) H'
theorem signs_at {j : Nat} (h : j < 12) : atI ("bghjklqvwxyz" : Str).cps.toList (j : Int) = some (("bghjklqvwxyz" : Str).cps.toList.getD j 0) := by
  refine atI_nat ?_
  have e : ("bghjklqvwxyz" : Str).cps.toList.length = 12 := by decide +kernel
  rw [List.getD_eq_getElem?_getD, List.getElem?_eq_getElem (by omega)]
  rfl
theorem ok_bnames (T : TBNames K mg) : FnAt P w K mg base CX0 "_law_names" 3 ["_law_cell"] spBNames := by
  have G__law_mixed : FnAt P w K mg base CX0 "_law_mixed" 1 _ spMixed := ok_mixed T.cells
  have G__law_word : FnAt P w K mg base CX0 "_law_word" 2 _ spWordB := ok_wordB T
  refine fnAt_ok T.d_names sc__law_names (fun vs H Q E h => ?_) (fun f cdv A outer s H vs Q E hr h => ?_)
  · obtain ⟨c, rfl, _⟩ := h; rfl
  · obtain ⟨c, rfl, k⟩ := h
    refine ⟨_, (pss_cons (ps_set (i := 1) sc__law_names.nd rfl (by first | exact Or.inl rfl | exact Or.inr rfl) (pe_ix ix_list (pe_lst (pa_cons (pe_callF G__law_word hr pass0 (pa_cons (pv 0) (pa_cons (pe_op op_mod (pv 0) pe_int) pa_nil))) (pa_cons (pe_ix ix_list (pe_lst (pa_cons pe_str (pa_cons pe_str (pa_cons pe_str (pa_cons pe_str (pa_cons pe_str (pa_cons pe_str pa_nil))))))) (pe_op op_mod (pe_op op_fdiv (pv 0) pe_int) pe_int) (fun _ _ => rfl)) pa_nil))) (pe_op op_mod (pe_op op_fdiv (pv 0) pe_int) pe_int) (fun _ _ => rfl)))
        (pss_cons (ps_set (i := 2) sc__law_names.nd rfl (by first | exact Or.inl rfl | exact Or.inr rfl) (pe_op op_mod (pe_op op_fdiv (pe_callF G__law_mixed hr pass0 (pa_cons (pv 0) (pa_cons pe_int pa_nil))) pe_int) pe_int))
        (pss_cons (ps_set (i := 3) sc__law_names.nd rfl (by first | exact Or.inl rfl | exact Or.inr rfl) pe_str)
        (pss_one (ps_ret (pe_lc (own := [("_law_k", 4)]) (g := gName 4) (tt := tYes) rfl sc__law_names.nd (pi_range1 rfl T.z_range (pa_cons pe_int pa_nil)) (blkOk_by (own := [("_law_k", 4)]) (N := ["_law_cell", "_law_base", "_law_at", "_law_signs", "_law_k"]) (sc := defScope s__law_names) (by decide +kernel)) (fun _ _ _ _ _ => pg_name (i := 4) sc__law_names.nd rfl (Or.inl rfl)) (fun _ _ _ _ _ => pts_nil) (fun _ _ _ _ _ => (pe_op op_add_str (pe_op op_add_str (pe_op op_add_str (pe_slice sl_str (pv 1) po_none (po_some (pv 2))) (pe_ix ix_str (pv 3) (pe_op op_mod (pv 4) pe_int) (fun _ _ => rfl))) (pe_ix (ix_listK K rfl) (pe_lst (pa_cons pe_str (pa_cons pe_str (pa_cons pe_str pa_nil)))) (pe_op op_fdiv (pv 4) pe_int) (fun _ _ => rfl))) (pe_slice sl_str (pv 1) (po_some (pv 2)) po_none))))))))), ?_⟩
    walk_at "rd"
    have c7 : 0 ≤ c % 7 ∧ c % 7 < 7 := ⟨Int.emod_nonneg _ (by decide), Int.emod_lt_of_pos _ (by decide)⟩
    refine ⟨c, c % 7, rfl, c7.1, by omega, line_ge (by decide), fun p1 n1 => ?_⟩
    obtain ⟨y, hy, hya⟩ := atI_ex (xs := sixL.map V.str) (i := c / 7 % 6) (Int.emod_nonneg _ (by decide)) (Int.emod_lt_of_pos _ (by decide))
    have hz : y = .str (sixL.getD (c / 7 % 6).toNat "") := by
      have h6 : 0 ≤ c / 7 % 6 := Int.emod_nonneg _ (by decide)
      obtain ⟨m, hm⟩ := Int.eq_ofNat_of_zero_le h6
      rw [hm] at hya ⊢
      have h7 : c / 7 % 6 < 6 := Int.emod_lt_of_pos _ (by decide)
      have e := atI_nat (xs := sixL.map V.str) (j := m) (v := .str (sixL.getD m "")) (by
        have h3 : m < sixL.length := by show m < 6; omega
        rw [List.getElem?_map, List.getD_eq_getElem?_getD, List.getElem?_eq_getElem h3]
        rfl)
      have e' : atI (sixL.map V.str) (m : Int) = some (.str (sixL.getD m "")) := e
      rw [hya] at e'
      injection e' with e'
    subst hz
    refine ⟨p1, _, _, _, rfl, rfl, SqL.of upd_same, hya, line_ge (by decide), fun p2 n2 => ?_⟩
    have s1 := (Same.new (o := .lst (sixL.map V.str)) n1).trans (Same.new (o := .lst [.str (mkS (wordB c (c % 7).toNat)), .str (sixL.getD (c / 7 % 6).toNat "")]) n2)
    have hb : atI [V.str (mkS (wordB c (c % 7).toNat)), .str (sixL.getD (c / 7 % 6).toNat "")] (c / 42 % 2) = some (.str (mkS (bBase c))) := by
      have h0 : 0 ≤ c / 42 % 2 := Int.emod_nonneg _ (by decide)
      have h1 : c / 42 % 2 < 2 := Int.emod_lt_of_pos _ (by decide)
      unfold bBase
      by_cases h : c / 42 % 2 = 0
      · rw [if_pos h, h]
        rfl
      · rw [if_neg h, show c / 42 % 2 = 1 by omega, mkS_tl]
        rfl
    refine ⟨p2, _, _, _, rfl, rfl, SqL.of upd_same, hb, ?_⟩
    have hp2 : upd (upd H p1 (.lst (sixL.map V.str))) p2 (.lst [.str (mkS (wordB c (c % 7).toNat)), .str (sixL.getD (c / 7 % 6).toNat "")]) p2 = _ := upd_same
    show spMixed _ (upd (upd H p1 (.lst (sixL.map V.str))) p2 (.lst [.str (mkS (wordB c (c % 7).toNat)), .str (sixL.getD (c / 7 % 6).toNat "")])) _ _
    generalize upd (upd H p1 (.lst (sixL.map V.str))) p2 (.lst [.str (mkS (wordB c (c % 7).toNat)), .str (sixL.getD (c / 7 % 6).toNat "")]) = H1 at s1
    have bl := (bBase_ok c).1
    have hat : mixed c 40 / 3 % 7 = ((bAt c : Nat) : Int) := by
      unfold bAt
      have : 0 ≤ mixed c 40 / 3 % 7 := Int.emod_nonneg _ (by decide)
      omega
    refine ⟨_, _, rfl, _, rfl, ?_⟩
    rw [hat]
    refine ⟨_, rfl, by decide, by decide, fun D nD => lc_range (lo := 0) (n := 28) (fun i H' => Same H1 H' ∧ H' D = some (.lst (((bNames c).map V.str).take i))) ⟨Same.new nD, upd_same⟩ ?_ ?_⟩
    · rintro i H2 hi ⟨q1, q2⟩
      have e12 : (i : Int) % 12 = ((i % 12 : Nat) : Int) := by omega
      have ed12 : (i : Int) / 12 = ((i / 12 : Nat) : Int) := by omega
      rw [Int.zero_add]
      refine ⟨rfl, ?_⟩
      walk_at "rd"
      obtain ⟨y, hy, hya⟩ := atI_ex (xs := [V.str "", .str "k", .str "v"]) (i := ((i / 12 : Nat) : Int)) (by omega) (by simp; omega)
      have i12 : i / 12 < 3 := by omega
      have hyv : y = .str (mkS (([[], [107], [118]] : List (List Nat)).getD (i / 12) [])) := by
        rcases (by omega : i / 12 = 0 ∨ i / 12 = 1 ∨ i / 12 = 2) with e | e | e <;> rw [e] at hya ⊢ <;> injection hya with hya <;> rw [← hya]
        · rw [empty_mk]; rfl
        · show V.str "k" = V.str (mkS [107])
          rw [show ("k" : Str) = mkS [107] by decide +kernel]
        · show V.str "v" = V.str (mkS [118])
          rw [show ("v" : Str) = mkS [118] by decide +kernel]
      subst hyv
      have l3 : (([[], [107], [118]] : List (List Nat)).getD (i / 12) []).length ≤ 1 := by
        rcases (by omega : i / 12 = 0 ∨ i / 12 = 1 ∨ i / 12 = 2) with e | e | e <;> rw [e] <;> decide
      have l1 : ((bBase c).take (bAt c)).length ≤ 6 := by rw [List.length_take]; omega
      have l2 : ((bBase c).drop (bAt c)).length ≤ 6 := by rw [List.length_drop]; omega
      have l0 : (mkS (bBase c)).length ≤ sizeLine := line_ge (by rw [mkS_len]; omega)
      rw [cutS_to, cutS_from, e12, ed12]
      refine ⟨l0, line_ge (by decide +kernel), _, signs_at (Nat.mod_lt i (by decide)), ?_⟩
      rw [mkS_one, mkS_app, mkS_len, mkS_len]
      refine ⟨line_ge (by simp only [List.length_singleton]; omega), line_ge (by decide), fun p np => ⟨p, _, _, _, rfl, rfl, SqL.of upd_same, hya, _, rfl, ?_⟩⟩
      rw [mkS_app, mkS_app]
      simp only [mkS_len, List.length_append, List.length_singleton]
      refine ⟨line_ge (by omega), line_ge (by omega), line_ge (by omega), lc_push (q1.trans (Same.new np)) nD (Same.new np _ _ q2) ?_ (by rw [List.length_map, bNames_len]; decide)⟩
      rw [List.getElem?_map, bNames_at c hi]
      unfold bName insB
      rw [Option.map_some, ← List.append_assoc]
    · rintro H2 ⟨q1, q2⟩
      rw [List.take_of_length_le (by rw [List.length_map, bNames_len]; decide)] at q2
      exact k H2 D (s1.trans q1) (s1.free nD) q2
end

--%% N2
/-! ## conditions: the plain side -/
inductive Cond where
  | fixed (b : Bool)
  | contact (n : Str)
  | not (c : Cond)
  | grp (s : Bool) (cs : List Cond)
mutual
def Cond.size : Cond → Nat
  | .fixed _ => 1
  | .contact _ => 1
  | .not c => c.size + 1
  | .grp _ cs => Cond.sizes cs + 1
def Cond.sizes : List Cond → Nat
  | [] => 0
  | c :: cs => c.size + Cond.sizes cs
end
mutual
def Cond.depth : Cond → Nat
  | .fixed _ => 1
  | .contact _ => 1
  | .not c => c.depth + 1
  | .grp _ cs => Cond.depths cs + 1
def Cond.depths : List Cond → Nat
  | [] => 0
  | c :: cs => max c.depth (Cond.depths cs)
end
def Cond.kids : Cond → List Cond
  | .fixed _ => []
  | .contact _ => []
  | .not c => [c]
  | .grp _ cs => cs
theorem Cond.depth_kids (c : Cond) : c.depth = Cond.depths c.kids + 1 := by
  cases c <;> simp [Cond.depth, Cond.kids, Cond.depths]
theorem Cond.size_kids (c : Cond) : c.size = Cond.sizes c.kids + 1 := by
  cases c <;> simp [Cond.size, Cond.kids, Cond.sizes]
theorem Cond.depth_pos (c : Cond) : 1 ≤ c.depth := by rw [Cond.depth_kids]; omega
theorem Cond.size_pos (c : Cond) : 1 ≤ c.size := by rw [Cond.size_kids]; omega
theorem Cond.depth_mem : ∀ {cs : List Cond} {c : Cond}, c ∈ cs → c.depth ≤ Cond.depths cs
  | x :: cs, c, h => by
    rw [Cond.depths]
    rcases List.mem_cons.mp h with rfl | h
    · omega
    · have := Cond.depth_mem h
      omega
theorem Cond.size_mem : ∀ {cs : List Cond} {c : Cond}, c ∈ cs → c.size ≤ Cond.sizes cs
  | x :: cs, c, h => by
    rw [Cond.sizes]
    rcases List.mem_cons.mp h with rfl | h
    · omega
    · have := Cond.size_mem h
      omega
theorem Cond.sizes_sum : ∀ cs : List Cond, Cond.sizes cs = (cs.map Cond.size).sum
  | [] => rfl
  | c :: cs => by rw [Cond.sizes, Cond.sizes_sum cs, List.map_cons, List.sum_cons]
theorem Cond.len_sizes : ∀ cs : List Cond, cs.length ≤ Cond.sizes cs
  | [] => Nat.le_refl _
  | c :: cs => by
    have h1 := Cond.len_sizes cs
    have h2 := c.size_pos
    rw [Cond.sizes, List.length_cons]
    omega
theorem Cond.depths_le : ∀ cs : List Cond, Cond.depths cs ≤ Cond.sizes cs
  | [] => Nat.le_refl _
  | c :: cs => by
    have ih := Cond.depths_le cs
    have h2 : c.depth ≤ c.size := by
      rw [Cond.depth_kids, Cond.size_kids]
      have := Cond.depths_le c.kids
      omega
    rw [Cond.depths, Cond.sizes]
    omega
termination_by cs => Cond.sizes cs
decreasing_by
  · have := c.size_pos
    simp [Cond.sizes]
    omega
  · have := Cond.size_kids c
    simp [Cond.sizes]
    omega
/-- a truth of each name -/
abbrev Im := Str → Bool
mutual
def Cond.holds (f : Im) : Cond → Bool
  | .fixed b => b
  | .contact n => f n
  | .not c => !c.holds f
  | .grp true cs => Cond.alls f cs
  | .grp false cs => Cond.anys f cs
def Cond.alls (f : Im) : List Cond → Bool
  | [] => true
  | c :: cs => c.holds f && Cond.alls f cs
def Cond.anys (f : Im) : List Cond → Bool
  | [] => false
  | c :: cs => c.holds f || Cond.anys f cs
end
theorem Cond.alls_map (f : Im) : ∀ cs : List Cond, Cond.alls f cs = (cs.map (Cond.holds f)).all id
  | [] => rfl
  | c :: cs => by rw [Cond.alls, Cond.alls_map f cs]; rfl
theorem Cond.anys_map (f : Im) : ∀ cs : List Cond, Cond.anys f cs = (cs.map (Cond.holds f)).any id
  | [] => rfl
  | c :: cs => by rw [Cond.anys, Cond.anys_map f cs]; rfl
/-- names put behind those that are there, each once -/
def addN (l : List Str) (n : Str) : List Str := if n ∈ l then l else l ++ [n]
mutual
def Cond.gather (l : List Str) : Cond → List Str
  | .fixed _ => l
  | .contact n => addN l n
  | .not c => c.gather l
  | .grp _ cs => Cond.gathers l cs
def Cond.gathers (l : List Str) : List Cond → List Str
  | [] => l
  | c :: cs => Cond.gathers (c.gather l) cs
end
def Cond.contacts (c : Cond) : List Str := c.gather []
theorem Cond.gathers_fold : ∀ (l : List Str) (cs : List Cond), Cond.gathers l cs = cs.foldl Cond.gather l
  | l, [] => rfl
  | l, c :: cs => by rw [Cond.gathers, Cond.gathers_fold (c.gather l) cs]; rfl
def word (s : Bool) : Str := if s then "and" else "or"
mutual
def Cond.told : Cond → PyData
  | .fixed b => .tuple [.str "fixed", .bool b]
  | .contact n => .tuple [.str "contact", .str n]
  | .not c => .tuple [.str "not", c.told]
  | .grp s cs => .tuple (.str (word s) :: Cond.tolds cs)
def Cond.tolds : List Cond → List PyData
  | [] => []
  | c :: cs => c.told :: Cond.tolds cs
end
theorem Cond.tolds_map : ∀ cs : List Cond, Cond.tolds cs = cs.map Cond.told
  | [] => rfl
  | c :: cs => by rw [Cond.tolds, Cond.tolds_map cs]; rfl
theorem sizes_app : ∀ a b : List Cond, Cond.sizes (a ++ b) = Cond.sizes a + Cond.sizes b
  | [], b => by simp [Cond.sizes]
  | x :: a, b => by rw [List.cons_append, Cond.sizes, Cond.sizes, sizes_app a b]; omega

/-! ## parts: the objects -/
/-- the five classes -/
structure Cl where
  fx : Addr
  ct : Addr
  tn : Addr
  sr : Addr
  br : Addr
def Cl.gr (cl : Cl) (s : Bool) : Addr := if s then cl.sr else cl.br
def Cl.has (cl : Cl) (C : Addr) : Prop := C = cl.fx ∨ C = cl.ct ∨ C = cl.tn ∨ C = cl.sr ∨ C = cl.br
theorem Cl.has_gr (cl : Cl) (s : Bool) : cl.has (cl.gr s) := by
  cases s <;> simp [Cl.gr, Cl.has]
mutual
/-- at v stands the condition c -/
inductive IsP (cl : Cl) (H : Hp) : V → Cond → Prop
  | fixed {a dx : Addr} {b : Bool} (h : H a = some (.ins cl.fx dx [("value", .bl b)])) : IsP cl H (.ref a) (.fixed b)
  | contact {a dx : Addr} {n : Str} (h : H a = some (.ins cl.ct dx [("name", .str n)])) : IsP cl H (.ref a) (.contact n)
  | not {a dx : Addr} {v : V} {c : Cond} (h : H a = some (.ins cl.tn dx [("part", v)])) (p : IsP cl H v c) : IsP cl H (.ref a) (.not c)
  | grp {a dx t : Addr} {vs : List V} {s : Bool} {cs : List Cond} (h : H a = some (.ins (cl.gr s) dx [("parts", .ref t)])) (ht : H t = some (.tup vs)) (p : IsPs cl H vs cs) : IsP cl H (.ref a) (.grp s cs)
inductive IsPs (cl : Cl) (H : Hp) : List V → List Cond → Prop
  | nil : IsPs cl H [] []
  | cons {v : V} {vs : List V} {c : Cond} {cs : List Cond} (h : IsP cl H v c) (t : IsPs cl H vs cs) : IsPs cl H (v :: vs) (c :: cs)
end
section
variable {cl : Cl} {H H' : Hp} {v : V} {vs : List V} {c : Cond} {cs : List Cond}
mutual
theorem IsP.mono (k : Imm cl.has H H') : ∀ {v : V} {c : Cond}, IsP cl H v c → IsP cl H' v c
  | _, _, .fixed h => .fixed (k _ _ h (.inl rfl))
  | _, _, .contact h => .contact (k _ _ h (.inr (.inl rfl)))
  | _, _, .not h p => .not (k _ _ h (.inr (.inr (.inl rfl)))) (p.mono k)
  | _, _, .grp h ht p => .grp (k _ _ h (cl.has_gr _)) (k _ _ ht trivial) (p.mono k)
theorem IsPs.mono (k : Imm cl.has H H') : ∀ {vs : List V} {cs : List Cond}, IsPs cl H vs cs → IsPs cl H' vs cs
  | _, _, .nil => .nil
  | _, _, .cons p t => .cons (p.mono k) (t.mono k)
end
theorem IsPs.length : ∀ {vs : List V} {cs : List Cond}, IsPs cl H vs cs → vs.length = cs.length
  | _, _, .nil => rfl
  | _, _, .cons _ t => by rw [List.length_cons, List.length_cons, IsPs.length t]
theorem IsPs.at : ∀ {vs : List V} {cs : List Cond} {i : Nat} {v : V}, IsPs cl H vs cs → vs[i]? = some v → ∃ c, cs[i]? = some c ∧ IsP cl H v c
  | _, _, i, v, .nil, h => by simp at h
  | _, _, 0, v, .cons p t, h => by
    simp at h
    subst h
    exact ⟨_, rfl, p⟩
  | _, _, i + 1, v, .cons p t, h => by
    obtain ⟨c, h1, h2⟩ := IsPs.at (i := i) (v := v) t (by simpa using h)
    exact ⟨c, by simpa using h1, h2⟩
theorem IsPs.snoc : ∀ {vs : List V} {cs : List Cond} {v : V} {c : Cond}, IsPs cl H vs cs → IsP cl H v c → IsPs cl H (vs ++ [v]) (cs ++ [c])
  | _, _, _, _, .nil, p => .cons p .nil
  | _, _, _, _, .cons q t, p => .cons q (t.snoc p)
/-- the receiver: an instance of one of the five -/
theorem IsP.obj (p : IsP cl H v c) : ∃ a C dx f x, v = .ref a ∧ H a = some (.ins C dx [(f, x)]) ∧ cl.has C ∧ (f = "value" ∨ f = "name" ∨ f = "part" ∨ f = "parts") := by
  cases p with
  | fixed h => exact ⟨_, _, _, _, _, rfl, h, .inl rfl, .inl rfl⟩
  | contact h => exact ⟨_, _, _, _, _, rfl, h, .inr (.inl rfl), .inr (.inl rfl)⟩
  | not h _ => exact ⟨_, _, _, _, _, rfl, h, .inr (.inr (.inl rfl)), .inr (.inr (.inl rfl))⟩
  | grp h _ _ => exact ⟨_, _, _, _, _, rfl, h, cl.has_gr _, .inr (.inr (.inr rfl))⟩
end
/-- no method is called like a field -/
def notField (m : Str) : Bool := !(m == "value") && !(m == "name") && !(m == "part") && !(m == "parts")
theorem lookup_field {m f : Str} {x : V} (hm : notField m = true) (hf : f = "value" ∨ f = "name" ∨ f = "part" ∨ f = "parts") : List.lookup m [(f, x)] = none := by
  unfold notField at hm
  simp only [Bool.and_eq_true, Bool.not_eq_true'] at hm
  obtain ⟨⟨⟨h1, h2⟩, h3⟩, h4⟩ := hm
  rcases hf with rfl | rfl | rfl | rfl <;> exact lk1 (by assumption)
/-- what the call of a method of a part asks -/
theorem meth_of {cl : Cl} {H : Hp} {v : V} {c : Cond} {m : Str} (hm : notField m = true) (p : IsP cl H v c) : ∃ a C dx fs, v = .ref a ∧ H a = some (.ins C dx fs) ∧ cl.has C ∧ fs.lookup m = none := by
  obtain ⟨a, C, dx, f, x, rfl, h, hc, hf⟩ := p.obj
  exact ⟨a, C, dx, _, rfl, h, hc, lookup_field hm hf⟩
theorem look_of {cl : Cl} {H : Hp} {a C dx : Addr} {fs : List (Str × V)} {c : Cond} {m : Str} (hm : notField m = true) (ha : H a = some (.ins C dx fs)) (p : IsP cl H (.ref a) c) : fs.lookup m = none := by
  obtain ⟨a', C', dx', f, x, e, h, hc, hf⟩ := p.obj
  injection e with e
  subst e
  rw [ha] at h
  cases h
  exact lookup_field hm hf

abbrev s_Part_inner : Stmt := inClass (top 38) 0
theorem sc_Part_inner : FnScope ["self"] ["self"] (defScope s_Part_inner) := ⟨rfl, rfl, rfl, by decide +kernel, rfl, by decide +kernel, by decide +kernel⟩
abbrev s_Turned_inner : Stmt := inClass (top 41) 1
theorem sc_Turned_inner : FnScope ["self"] ["self"] (defScope s_Turned_inner) := ⟨rfl, rfl, rfl, by decide +kernel, rfl, by decide +kernel, by decide +kernel⟩
abbrev s_Group_inner : Stmt := inClass (top 42) 1
theorem sc_Group_inner : FnScope ["self"] ["self"] (defScope s_Group_inner) := ⟨rfl, rfl, rfl, by decide +kernel, rfl, by decide +kernel, by decide +kernel⟩
abbrev s_Part_size : Stmt := inClass (top 38) 4
theorem sc_Part_size : FnScope ["self", "part"] ["self"] (defScope s_Part_size) := ⟨rfl, rfl, rfl, by decide +kernel, rfl, by decide +kernel, by decide +kernel⟩
abbrev s_Part_depth : Stmt := inClass (top 38) 5
theorem sc_Part_depth : FnScope ["self", "part"] ["self"] (defScope s_Part_depth) := ⟨rfl, rfl, rfl, by decide +kernel, rfl, by decide +kernel, by decide +kernel⟩
abbrev s_Part_bounded : Stmt := inClass (top 38) 8
theorem sc_Part_bounded : FnScope ["self"] ["self"] (defScope s_Part_bounded) := ⟨rfl, rfl, rfl, by decide +kernel, rfl, by decide +kernel, by decide +kernel⟩
structure TParts (K : PySem.W.Frag) (mg : Str → Option Value) (cl : Cl) : Prop where
  c_Fixed : ClsAt K mg "Fixed" cl.fx
  c_Contact : ClsAt K mg "Contact" cl.ct
  c_Turned : ClsAt K mg "Turned" cl.tn
  c_Series : ClsAt K mg "Series" cl.sr
  c_Branch : ClsAt K mg "Branch" cl.br
  nd : [cl.fx, cl.ct, cl.tn, cl.sr, cl.br].Nodup
  nv_fx : NoAttr K cl.fx "value"
  nn_ct : NoAttr K cl.ct "name"
  np_tn : NoAttr K cl.tn "part"
  np_sr : NoAttr K cl.sr "parts"
  np_br : NoAttr K cl.br "parts"
  m_inner_fx : MethAt K cl.fx "inner" "Part.inner" s_Part_inner ["self"]
  m_inner_ct : MethAt K cl.ct "inner" "Part.inner" s_Part_inner ["self"]
  m_inner_tn : MethAt K cl.tn "inner" "Turned.inner" s_Turned_inner ["self"]
  m_inner_sr : MethAt K cl.sr "inner" "Group.inner" s_Group_inner ["self"]
  m_inner_br : MethAt K cl.br "inner" "Group.inner" s_Group_inner ["self"]
  m_size_fx : MethAt K cl.fx "size" "Part.size" s_Part_size ["self"]
  m_size_ct : MethAt K cl.ct "size" "Part.size" s_Part_size ["self"]
  m_size_tn : MethAt K cl.tn "size" "Part.size" s_Part_size ["self"]
  m_size_sr : MethAt K cl.sr "size" "Part.size" s_Part_size ["self"]
  m_size_br : MethAt K cl.br "size" "Part.size" s_Part_size ["self"]
  m_depth_fx : MethAt K cl.fx "depth" "Part.depth" s_Part_depth ["self"]
  m_depth_ct : MethAt K cl.ct "depth" "Part.depth" s_Part_depth ["self"]
  m_depth_tn : MethAt K cl.tn "depth" "Part.depth" s_Part_depth ["self"]
  m_depth_sr : MethAt K cl.sr "depth" "Part.depth" s_Part_depth ["self"]
  m_depth_br : MethAt K cl.br "depth" "Part.depth" s_Part_depth ["self"]
  m_bounded_tn : MethAt K cl.tn "bounded" "Part.bounded" s_Part_bounded ["self"]
  m_bounded_sr : MethAt K cl.sr "bounded" "Part.bounded" s_Part_bounded ["self"]
  m_bounded_br : MethAt K cl.br "bounded" "Part.bounded" s_Part_bounded ["self"]
  z_sum : mg "sum" = none
  z_max : mg "max" = none
  z_tuple : mg "tuple" = none
  g_MOST_SIZE : GlobC mg "MOST_SIZE" (.int 60)
  g_MOST_DEEP : GlobC mg "MOST_DEEP" (.int 20)
section
variable {P : Program} {w : World} {K : PySem.W.Frag} {mg : Str → Option Value} {base : Heap} {cl : Cl}
theorem TParts.gr (T : TParts K mg cl) (s : Bool) : ∃ x, ClsAt K mg x (cl.gr s) := by
  cases s
  · exact ⟨_, T.c_Branch⟩
  · exact ⟨_, T.c_Series⟩
theorem TParts.np (T : TParts K mg cl) (s : Bool) : NoAttr K (cl.gr s) "parts" := by
  cases s
  · exact T.np_br
  · exact T.np_sr
theorem TParts.cls (T : TParts K mg cl) {C : Addr} (h : cl.has C) : Cls K C := by
  rcases h with rfl | rfl | rfl | rfl | rfl
  · exact T.c_Fixed.cl
  · exact T.c_Contact.cl
  · exact T.c_Turned.cl
  · exact T.c_Series.cl
  · exact T.c_Branch.cl
/-- by the class, what stands there -/
theorem inv_fx (nd : [cl.fx, cl.ct, cl.tn, cl.sr, cl.br].Nodup) {H : Hp} {a dx : Addr} {fs : List (Str × V)} {c : Cond} (h : H a = some (.ins cl.fx dx fs)) (p : IsP cl H (.ref a) c) : ∃ b, c = .fixed b ∧ fs = ([("value", .bl b)] : List (Str × V)) := by
  simp only [List.nodup_cons, List.mem_cons, List.not_mem_nil, or_false, not_or] at nd
  cases p with
  | fixed q => rw [q] at h; cases h; exact ⟨_, rfl, rfl⟩
  | contact q => rw [q] at h; injection h with h; injection h with h; exact absurd h.symm nd.1.1
  | not q _ => rw [q] at h; injection h with h; injection h with h; exact absurd h.symm nd.1.2.1
  | @grp _ _ _ _ s _ q _ _ =>
    rw [q] at h; injection h with h; injection h with h
    cases s
    · exact absurd h.symm nd.1.2.2.2
    · exact absurd h.symm nd.1.2.2.1
theorem inv_ct (nd : [cl.fx, cl.ct, cl.tn, cl.sr, cl.br].Nodup) {H : Hp} {a dx : Addr} {fs : List (Str × V)} {c : Cond} (h : H a = some (.ins cl.ct dx fs)) (p : IsP cl H (.ref a) c) : ∃ n, c = .contact n ∧ fs = ([("name", .str n)] : List (Str × V)) := by
  simp only [List.nodup_cons, List.mem_cons, List.not_mem_nil, or_false, not_or] at nd
  cases p with
  | fixed q => rw [q] at h; injection h with h; injection h with h; exact absurd h nd.1.1
  | contact q => rw [q] at h; cases h; exact ⟨_, rfl, rfl⟩
  | not q _ => rw [q] at h; injection h with h; injection h with h; exact absurd h.symm nd.2.1.1
  | @grp _ _ _ _ s _ q _ _ =>
    rw [q] at h; injection h with h; injection h with h
    cases s
    · exact absurd h.symm nd.2.1.2.2
    · exact absurd h.symm nd.2.1.2.1
theorem inv_tn (nd : [cl.fx, cl.ct, cl.tn, cl.sr, cl.br].Nodup) {H : Hp} {a dx : Addr} {fs : List (Str × V)} {c : Cond} (h : H a = some (.ins cl.tn dx fs)) (p : IsP cl H (.ref a) c) : ∃ v c', c = .not c' ∧ fs = ([("part", v)] : List (Str × V)) ∧ IsP cl H v c' := by
  simp only [List.nodup_cons, List.mem_cons, List.not_mem_nil, or_false, not_or] at nd
  cases p with
  | fixed q => rw [q] at h; injection h with h; injection h with h; exact absurd h nd.1.2.1
  | contact q => rw [q] at h; injection h with h; injection h with h; exact absurd h nd.2.1.1
  | not q p => rw [q] at h; cases h; exact ⟨_, _, rfl, rfl, p⟩
  | @grp _ _ _ _ s _ q _ _ =>
    rw [q] at h; injection h with h; injection h with h
    cases s
    · exact absurd h.symm nd.2.2.1.2
    · exact absurd h.symm nd.2.2.1.1
theorem inv_gr (nd : [cl.fx, cl.ct, cl.tn, cl.sr, cl.br].Nodup) {H : Hp} {a dx C : Addr} {fs : List (Str × V)} {c : Cond} {s : Bool} (hC : C = cl.gr s) (h : H a = some (.ins C dx fs)) (p : IsP cl H (.ref a) c) :
    ∃ t vs cs, c = .grp s cs ∧ fs = ([("parts", .ref t)] : List (Str × V)) ∧ H t = some (.tup vs) ∧ IsPs cl H vs cs := by
  subst hC
  simp only [List.nodup_cons, List.mem_cons, List.not_mem_nil, or_false, not_or] at nd
  cases p with
  | fixed q =>
    rw [q] at h; injection h with h; injection h with h
    cases s
    · exact absurd h nd.1.2.2.2
    · exact absurd h nd.1.2.2.1
  | contact q =>
    rw [q] at h; injection h with h; injection h with h
    cases s
    · exact absurd h nd.2.1.2.2
    · exact absurd h nd.2.1.2.1
  | not q _ =>
    rw [q] at h; injection h with h; injection h with h
    cases s
    · exact absurd h nd.2.2.1.2
    · exact absurd h nd.2.2.1.1
  | @grp _ _ t vs s' cs q ht p =>
    rw [q] at h; injection h with h; injection h with h1 h2 h3
    have e : s' = s := by
      cases s <;> cases s'
      · rfl
      · exact absurd h1 nd.2.2.2.1
      · exact absurd h1.symm nd.2.2.2.1
      · rfl
    subst e
    exact ⟨t, vs, cs, rfl, h3.symm, ht, p⟩
theorem sum_cast : ∀ l : List Cond, (l.map fun c => (c.size : Int)).sum = (((l.map Cond.size).sum : Nat) : Int)
  | [] => rfl
  | c :: l => by
    rw [List.map_cons, List.sum_cons, sum_cast l, List.map_cons, List.sum_cons]
    omega
/-! ### inner -/
def spInner (cl : Cl) (C : Addr) : Sp := fun vs H Q _ => ∃ (a dx : Addr) (fs : List (Str × V)) (c : Cond), vs = [.ref a] ∧ H a = some (.ins C dx fs) ∧ IsP cl H (.ref a) c ∧
  ∀ (H' : Hp) (t : Addr) (ws : List V), Same H H' → H' t = some (.tup ws) → IsPs cl H' ws c.kids → Q (.ref t) H'
theorem ok_inner0 (T : TParts K mg cl) {C : Addr} (hC : C = cl.fx ∨ C = cl.ct) (D : MethAt K C "inner" "Part.inner" s_Part_inner ["self"]) :
    ∃ f fd, Cls K C ∧ Meth K C "inner" f ∧ Binds K fd ["self"] [] ∧ FnOk P w K mg base CX0 1 f fd ["self"] (spInner cl C) := by
  refine methAt_ok (T.cls (by rcases hC with rfl | rfl; exact .inl rfl; exact .inr (.inl rfl))) D sc_Part_inner (fun vs H Q E h => ?_) (fun f cdv A outer s H vs Q E hr h => ?_)
  · obtain ⟨a, dx, fs, c, rfl, _⟩ := h; rfl
  · obtain ⟨a, dx, fs, c, rfl, ha, p, k⟩ := h
    refine ⟨_, (pss_one (ps_ret (pe_tup pa_nil))), ?_⟩
    refine ⟨Nat.zero_le _, fun q nq => k _ q [] (Same.new nq) upd_same ?_⟩
    have e : c.kids = [] := by
      rcases hC with rfl | rfl
      · obtain ⟨b, rfl, _⟩ := inv_fx T.nd ha p; rfl
      · obtain ⟨b, rfl, _⟩ := inv_ct T.nd ha p; rfl
    rw [e]
    exact .nil
theorem ok_inner1 (T : TParts K mg cl) (D : MethAt K cl.tn "inner" "Turned.inner" s_Turned_inner ["self"]) :
    ∃ f fd, Cls K cl.tn ∧ Meth K cl.tn "inner" f ∧ Binds K fd ["self"] [] ∧ FnOk P w K mg base CX0 1 f fd ["self"] (spInner cl cl.tn) := by
  refine methAt_ok T.c_Turned.cl D sc_Turned_inner (fun vs H Q E h => ?_) (fun f cdv A outer s H vs Q E hr h => ?_)
  · obtain ⟨a, dx, fs, c, rfl, _⟩ := h; rfl
  · obtain ⟨a, dx, fs, c, rfl, ha, p, k⟩ := h
    obtain ⟨v, c', rfl, rfl, p'⟩ := inv_tn T.nd ha p
    refine ⟨_, (pss_one (ps_ret (pe_tup (pa_cons (pe_fld (pv 0) rfl) pa_nil)))), ?_⟩
    refine ⟨_, rfl, a, _, dx, _, v, rfl, ha, T.c_Turned.cl, T.np_tn, lk1s, line_ge (by simp), fun q nq => ?_⟩
    exact k _ q [v] (Same.new nq) upd_same (.cons (p'.mono (Imm.new nq)) .nil)
theorem ok_inner2 (T : TParts K mg cl) (s : Bool) (D : MethAt K (cl.gr s) "inner" "Group.inner" s_Group_inner ["self"]) :
    ∃ f fd, Cls K (cl.gr s) ∧ Meth K (cl.gr s) "inner" f ∧ Binds K fd ["self"] [] ∧ FnOk P w K mg base CX0 1 f fd ["self"] (spInner cl (cl.gr s)) := by
  refine methAt_ok (T.cls (cl.has_gr s)) D sc_Group_inner (fun vs H Q E h => ?_) (fun f cdv A outer st H vs Q E hr h => ?_)
  · obtain ⟨a, dx, fs, c, rfl, _⟩ := h; rfl
  · obtain ⟨a, dx, fs, c, rfl, ha, p, k⟩ := h
    obtain ⟨t, ws, cs, rfl, rfl, ht, p'⟩ := inv_gr T.nd rfl ha p
    refine ⟨_, (pss_one (ps_ret (pe_fld (pv 0) rfl))), ?_⟩
    refine ⟨_, rfl, a, _, dx, _, _, rfl, ha, T.cls (cl.has_gr s), T.np s, lk1s, ?_⟩
    exact k H t ws (Same.refl _) ht p'
theorem disp_inner (T : TParts K mg cl) : DispAt P w K mg base CX0 cl.has "inner" 1 ["self"] (spInner cl) := by
  refine ⟨fun C hC => ?_⟩
  rcases hC with rfl | rfl | rfl | rfl | rfl
  · exact ok_inner0 T (.inl rfl) T.m_inner_fx
  · exact ok_inner0 T (.inr rfl) T.m_inner_ct
  · exact ok_inner1 T T.m_inner_tn
  · exact ok_inner2 T true T.m_inner_sr
  · exact ok_inner2 T false T.m_inner_br
/-! ### size -/
def spSize (cl : Cl) (n : Nat) (C : Addr) : Sp := fun vs H Q _ => ∃ (a dx : Addr) (fs : List (Str × V)) (c : Cond), vs = [.ref a] ∧ H a = some (.ins C dx fs) ∧ IsP cl H (.ref a) c ∧ c.depth ≤ n ∧ c.size ≤ 1000 ∧
  ∀ (H' : Hp), Same H H' → Q (.int c.size) H'
theorem ok_size (T : TParts K mg cl) {n k : Nat} (G_size : DispAt P w K mg base CX0 cl.has "size" k ["self"] (spSize cl n)) (hk : 1 ≤ k) {C : Addr} (hC : cl.has C) (D : MethAt K C "size" "Part.size" s_Part_size ["self"]) :
    ∃ f fd, Cls K C ∧ Meth K C "size" f ∧ Binds K fd ["self"] [] ∧ FnOk P w K mg base CX0 (k + 1) f fd ["self"] (spSize cl (n + 1) C) := by
  have G_inner : DispAt P w K mg base CX0 cl.has "inner" 1 ["self"] (spInner cl) := disp_inner T
  refine methAt_ok (T.cls hC) D sc_Part_size (fun vs H Q E h => ?_) (fun f cdv A outer s H vs Q E hr h => ?_)
  · obtain ⟨a, dx, fs, c, rfl, _⟩ := h; rfl
  · obtain ⟨a, dx, fs, c, rfl, ha, p, hd, hz, q⟩ := h
    refine ⟨_, (pss_one (ps_ret (pe_op op_add pe_int (pe_callB (cr_sum rfl) (by rfl) T.z_sum (by decide +kernel) (pa_cons (pe_lc (own := [("part", 1)]) (g := gName 1) (tt := tYes) rfl sc_Part_size.nd (pi_tup (pe_methD0 G_inner hr pass0 (pv 0) hk)) (blkOk_by (own := [("part", 1)]) (N := ["self", "part"]) (sc := defScope s_Part_size) (by decide +kernel)) (fun _ _ _ _ _ => pg_name (i := 1) sc_Part_size.nd rfl (Or.inl rfl)) (fun _ _ _ _ _ => pts_nil) (fun _ _ _ _ _ => (pe_methD0 G_size hr pass0 (pv 1) (Nat.le_refl _)))) pa_nil))))), ?_⟩
    refine ⟨_, rfl, a, C, dx, fs, rfl, ha, hC, look_of (by decide +kernel) ha p, a, dx, fs, c, rfl, ha, p, fun H1 t ws s1 ht ps => ?_⟩
    have hlen := ps.length
    have hz2 : c.kids.length ≤ 1000 := by
      have h1 := Cond.len_sizes c.kids
      have h2 := c.size_kids
      omega
    refine ⟨t, rfl, ⟨_, SqT.of ht⟩, fun D nD => lc_tup (K := K) (a := t) (xs := ws) (fun i H' => Same H1 H' ∧ H' D = some (.lst ((c.kids.map fun c => V.int c.size).take i)))
      ⟨Same.new nD, upd_same⟩ (fun i H' _ q => SqT.of (q.1 _ _ ht)) ?_ ?_⟩
    · rintro i y H2 hy ⟨q1, q2⟩
      obtain ⟨c', hc', p'⟩ := (ps.mono (Same.imm q1)).at hy
      obtain ⟨a', C', dx', fs', rfl, ha', hC', hl'⟩ := meth_of (m := "size") (by decide +kernel) p'
      have hm := List.mem_of_getElem? hc'
      have h1 := Cond.depth_mem hm
      have h2 := Cond.size_mem hm
      have h3 := c.depth_kids
      have h4 := c.size_kids
      refine ⟨rfl, _, rfl, a', C', dx', fs', rfl, ha', hC', hl', a', dx', fs', c', rfl, ha', p', by omega, by omega, fun H3 s3 => ?_⟩
      exact lc_push (q1.trans s3) nD (s3 _ _ q2) (by rw [List.getElem?_map, hc']; rfl) (by rw [List.length_map]; omega)
    · rintro H2 ⟨q1, q2⟩
      rw [hlen, List.take_of_length_le (by simp)] at q2
      refine ⟨D, c.kids.map fun c => (c.size : Int), rfl, SqL.of ?_, _, _, rfl, rfl, ?_⟩
      · rw [q2, List.map_map]
        rfl
      · have e : (1 : Int) + (c.kids.map fun c => (c.size : Int)).sum = (c.size : Int) := by
          rw [sum_cast, Cond.size_kids, Cond.sizes_sum]
          omega
        show Q (V.int (1 + _)) _
        rw [e]
        exact q _ (s1.trans q1)
theorem disp_size (T : TParts K mg cl) : ∀ n : Nat, DispAt P w K mg base CX0 cl.has "size" (n + 1) ["self"] (spSize cl n)
  | 0 => by
    refine ⟨fun C hC => ?_⟩
    obtain ⟨f, fd, h1, h2, h3, h4⟩ := (disp_inner (P := P) (w := w) (base := base) T).ex C hC
    have D : MethAt K C "size" "Part.size" s_Part_size ["self"] := by
      rcases hC with rfl | rfl | rfl | rfl | rfl
      · exact T.m_size_fx
      · exact T.m_size_ct
      · exact T.m_size_tn
      · exact T.m_size_sr
      · exact T.m_size_br
    refine methAt_ok (T.cls hC) D sc_Part_size (fun vs H Q E h => ?_) (fun f cdv A outer s H vs Q E hr h => ?_)
    · obtain ⟨a, dx, fs, c, rfl, _⟩ := h; rfl
    · obtain ⟨a, dx, fs, c, rfl, ha, p, hd, _⟩ := h
      exact absurd c.depth_pos (by omega)
  | n + 1 => by
    refine ⟨fun C hC => ?_⟩
    have D : MethAt K C "size" "Part.size" s_Part_size ["self"] := by
      rcases hC with rfl | rfl | rfl | rfl | rfl
      · exact T.m_size_fx
      · exact T.m_size_ct
      · exact T.m_size_tn
      · exact T.m_size_sr
      · exact T.m_size_br
    exact ok_size T (disp_size T n) (by omega) hC D
/-! ### depth -/
def spDepth (cl : Cl) (n : Nat) (C : Addr) : Sp := fun vs H Q _ => ∃ (a dx : Addr) (fs : List (Str × V)) (c : Cond), vs = [.ref a] ∧ H a = some (.ins C dx fs) ∧ IsP cl H (.ref a) c ∧ c.depth ≤ n ∧ c.size ≤ 1000 ∧
  ∀ (H' : Hp), Same H H' → Q (.int c.depth) H'
theorem max_depths : ∀ (cs : List Cond) (m : Int), m ∈ (0 : Int) :: cs.map (fun c => (c.depth : Int)) → (∀ y, y ∈ (0 : Int) :: cs.map (fun c => (c.depth : Int)) → y ≤ m) → m = (Cond.depths cs : Int) := by
  have le : ∀ (cs : List Cond), ∃ y, y ∈ (0 : Int) :: cs.map (fun c => (c.depth : Int)) ∧ (Cond.depths cs : Int) ≤ y := by
    intro cs
    induction cs with
    | nil => exact ⟨0, List.mem_cons_self, by simp [Cond.depths]⟩
    | cons c cs ih =>
      obtain ⟨y, hy, hl⟩ := ih
      by_cases h : Cond.depths cs ≤ c.depth
      · exact ⟨c.depth, by simp, by rw [Cond.depths]; omega⟩
      · refine ⟨y, ?_, by rw [Cond.depths]; omega⟩
        rcases List.mem_cons.mp hy with rfl | hy
        · exact List.mem_cons_self
        · exact List.mem_cons_of_mem _ (List.mem_cons_of_mem _ hy)
  intro cs m hm hle
  obtain ⟨y, hy, hl⟩ := le cs
  have h1 := hle y hy
  have h2 : m ≤ (Cond.depths cs : Int) := by
    rcases List.mem_cons.mp hm with rfl | hm
    · omega
    · obtain ⟨c, hc, rfl⟩ := List.mem_map.mp hm
      have := Cond.depth_mem hc
      omega
  omega
theorem ok_depth (T : TParts K mg cl) {n k : Nat} (G_depth : DispAt P w K mg base CX0 cl.has "depth" k ["self"] (spDepth cl n)) (hk : 1 ≤ k) {C : Addr} (hC : cl.has C) (D : MethAt K C "depth" "Part.depth" s_Part_depth ["self"]) :
    ∃ f fd, Cls K C ∧ Meth K C "depth" f ∧ Binds K fd ["self"] [] ∧ FnOk P w K mg base CX0 (k + 1) f fd ["self"] (spDepth cl (n + 1) C) := by
  have G_inner : DispAt P w K mg base CX0 cl.has "inner" 1 ["self"] (spInner cl) := disp_inner T
  refine methAt_ok (T.cls hC) D sc_Part_depth (fun vs H Q E h => ?_) (fun f cdv A outer s H vs Q E hr h => ?_)
  · obtain ⟨a, dx, fs, c, rfl, _⟩ := h; rfl
  · obtain ⟨a, dx, fs, c, rfl, ha, p, hd, hz, q⟩ := h
    refine ⟨_, (pss_one (ps_ret (pe_op op_add pe_int (pe_callB (cr_max rfl) (by rfl) T.z_max (by decide +kernel) (pa_cons (pe_op op_cat (pe_lst (pa_cons pe_int pa_nil)) (pe_lc (own := [("part", 1)]) (g := gName 1) (tt := tYes) rfl sc_Part_depth.nd (pi_tup (pe_methD0 G_inner hr pass0 (pv 0) hk)) (blkOk_by (own := [("part", 1)]) (N := ["self", "part"]) (sc := defScope s_Part_depth) (by decide +kernel)) (fun _ _ _ _ _ => pg_name (i := 1) sc_Part_depth.nd rfl (Or.inl rfl)) (fun _ _ _ _ _ => pts_nil) (fun _ _ _ _ _ => (pe_methD0 G_depth hr pass0 (pv 1) (Nat.le_refl _))))) pa_nil))))), ?_⟩
    have hz2 : c.kids.length ≤ 1000 := by
      have h1 := Cond.len_sizes c.kids
      have h2 := c.size_kids
      omega
    refine ⟨line_ge (by decide), fun z nz => ?_⟩
    have ha0 : upd H z (.lst [.int 0]) a = some (.ins C dx fs) := Same.new nz _ _ ha
    have p0 : IsP cl (upd H z (.lst [.int 0])) (.ref a) c := p.mono (Imm.new nz)
    refine ⟨_, rfl, a, C, dx, fs, rfl, ha0, hC, look_of (by decide +kernel) ha p, a, dx, fs, c, rfl, ha0, p0, fun H1 t ws s1 ht ps => ?_⟩
    have hlen := ps.length
    refine ⟨t, rfl, ⟨_, SqT.of ht⟩, fun D nD => lc_tup (K := K) (a := t) (xs := ws) (fun i H' => Same H1 H' ∧ H' D = some (.lst ((c.kids.map fun c => V.int c.depth).take i)))
      ⟨Same.new nD, upd_same⟩ (fun i H' _ q => SqT.of (q.1 _ _ ht)) ?_ ?_⟩
    · rintro i y H2 hy ⟨q1, q2⟩
      obtain ⟨c', hc', p'⟩ := (ps.mono (Same.imm q1)).at hy
      obtain ⟨a', C', dx', fs', rfl, ha', hC', hl'⟩ := meth_of (m := "depth") (by decide +kernel) p'
      have hm := List.mem_of_getElem? hc'
      have h1 := Cond.depth_mem hm
      have h2 := Cond.size_mem hm
      have h3 := c.depth_kids
      have h4 := c.size_kids
      refine ⟨rfl, _, rfl, a', C', dx', fs', rfl, ha', hC', hl', a', dx', fs', c', rfl, ha', p', by omega, by omega, fun H3 s3 => ?_⟩
      exact lc_push (q1.trans s3) nD (s3 _ _ q2) (by rw [List.getElem?_map, hc']; rfl) (by rw [List.length_map]; omega)
    · rintro H2 ⟨q1, q2⟩
      rw [hlen, List.take_of_length_le (by simp)] at q2
      refine ⟨z, D, [.int 0], _, rfl, rfl, q1 _ _ (s1 _ _ upd_same), q2, line_ge (by simp; omega), fun y ny => ?_⟩
      refine ⟨y, (0 : Int) :: c.kids.map (fun c => (c.depth : Int)), rfl, SqL.of ?_, by simp, fun m hm hle => ?_⟩
      · rw [upd_same]
        simp [List.map_map, Function.comp_def]
      · have e := max_depths c.kids m hm hle
        refine ⟨_, _, rfl, rfl, ?_⟩
        have e2 : (1 : Int) + m = (c.depth : Int) := by
          rw [e, Cond.depth_kids]
          omega
        show Q (V.int (1 + m)) _
        rw [e2]
        exact q _ (((Same.new nz).trans (s1.trans q1)).trans (Same.new ny))
theorem disp_depth (T : TParts K mg cl) : ∀ n : Nat, DispAt P w K mg base CX0 cl.has "depth" (n + 1) ["self"] (spDepth cl n)
  | 0 => by
    refine ⟨fun C hC => ?_⟩
    have D : MethAt K C "depth" "Part.depth" s_Part_depth ["self"] := by
      rcases hC with rfl | rfl | rfl | rfl | rfl
      · exact T.m_depth_fx
      · exact T.m_depth_ct
      · exact T.m_depth_tn
      · exact T.m_depth_sr
      · exact T.m_depth_br
    refine methAt_ok (T.cls hC) D sc_Part_depth (fun vs H Q E h => ?_) (fun f cdv A outer s H vs Q E hr h => ?_)
    · obtain ⟨a, dx, fs, c, rfl, _⟩ := h; rfl
    · obtain ⟨a, dx, fs, c, rfl, ha, p, hd, _⟩ := h
      exact absurd c.depth_pos (by omega)
  | n + 1 => by
    refine ⟨fun C hC => ?_⟩
    have D : MethAt K C "depth" "Part.depth" s_Part_depth ["self"] := by
      rcases hC with rfl | rfl | rfl | rfl | rfl
      · exact T.m_depth_fx
      · exact T.m_depth_ct
      · exact T.m_depth_tn
      · exact T.m_depth_sr
      · exact T.m_depth_br
    exact ok_depth T (disp_depth T n) (by omega) hC D
/-! ### bounded: what is within the limits is let by -/
def spBounded (cl : Cl) (C : Addr) : Sp := fun vs H Q _ => ∃ (a dx : Addr) (fs : List (Str × V)) (c : Cond), vs = [.ref a] ∧ H a = some (.ins C dx fs) ∧ IsP cl H (.ref a) c ∧ c.depth ≤ 20 ∧ c.size ≤ 60 ∧
  ∀ (H' : Hp), Same H H' → Q .non H'
theorem disp_bounded (T : TParts K mg cl) : DispAt P w K mg base CX0 (fun C => C = cl.tn ∨ C = cl.sr ∨ C = cl.br) "bounded" 22 ["self"] (spBounded cl) := by
  have G_size : DispAt P w K mg base CX0 cl.has "size" 21 ["self"] (spSize cl 20) := disp_size T 20
  have G_depth : DispAt P w K mg base CX0 cl.has "depth" 21 ["self"] (spDepth cl 20) := disp_depth T 20
  refine ⟨fun C hC => ?_⟩
  have hC' : cl.has C := by
    rcases hC with rfl | rfl | rfl
    · exact .inr (.inr (.inl rfl))
    · exact .inr (.inr (.inr (.inl rfl)))
    · exact .inr (.inr (.inr (.inr rfl)))
  have D : MethAt K C "bounded" "Part.bounded" s_Part_bounded ["self"] := by
    rcases hC with rfl | rfl | rfl
    · exact T.m_bounded_tn
    · exact T.m_bounded_sr
    · exact T.m_bounded_br
  refine methAt_ok (T.cls hC') D sc_Part_bounded (fun vs H Q E h => ?_) (fun f cdv A outer s H vs Q E hr h => ?_)
  · obtain ⟨a, dx, fs, c, rfl, _⟩ := h; rfl
  · obtain ⟨a, dx, fs, c, rfl, ha, p, hd, hz, q⟩ := h
    refine ⟨_, (pss_one (ps_if (PW.pt (pw_or (pt_cmpR op_gt (pe_methD0 G_size hr pass0 (pv 0)) (pe_gc T.g_MOST_SIZE) (nomark _)) (pw_or1 (pt_cmpR op_gt (pe_methD0 G_depth hr pass0 (pv 0)) (pe_gc T.g_MOST_DEEP) (nomark _))))) (pss_one ps_never) pss_nil)), ?_⟩
    refine ⟨_, rfl, a, C, dx, fs, rfl, ha, hC', look_of (by decide +kernel) ha p, a, dx, fs, c, rfl, ha, p, hd, by omega, fun H1 s1 => ?_⟩
    refine ⟨_, _, rfl, rfl, _, rfl, ?_⟩
    rw [decide_eq_false (show ¬ (60 : Int) < (c.size : Int) by omega)]
    have ha1 := s1 _ _ ha
    have p1 := p.mono (Same.imm (T := cl.has) s1)
    refine iteF ⟨_, rfl, a, C, dx, fs, rfl, ha1, hC', look_of (by decide +kernel) ha p, a, dx, fs, c, rfl, ha1, p1, hd, by omega, fun H2 s2 => ?_⟩
    refine ⟨_, _, rfl, rfl, _, rfl, ?_⟩
    rw [decide_eq_false (show ¬ (20 : Int) < (c.depth : Int) by omega)]
    exact iteF (q _ (s1.trans s2))
end

--%% N3
/-! ## told -/
mutual
/-- at v stands the tuple that c tells -/
inductive IsT (H : Hp) : V → Cond → Prop
  | fixed {a : Addr} {b : Bool} (h : H a = some (.tup [.str "fixed", .bl b])) : IsT H (.ref a) (.fixed b)
  | contact {a : Addr} {n : Str} (h : H a = some (.tup [.str "contact", .str n])) : IsT H (.ref a) (.contact n)
  | not {a : Addr} {v : V} {c : Cond} (h : H a = some (.tup [.str "not", v])) (p : IsT H v c) : IsT H (.ref a) (.not c)
  | grp {a : Addr} {vs : List V} {s : Bool} {cs : List Cond} (h : H a = some (.tup (.str (word s) :: vs))) (p : IsTs H vs cs) : IsT H (.ref a) (.grp s cs)
inductive IsTs (H : Hp) : List V → List Cond → Prop
  | nil : IsTs H [] []
  | cons {v : V} {vs : List V} {c : Cond} {cs : List Cond} (h : IsT H v c) (t : IsTs H vs cs) : IsTs H (v :: vs) (c :: cs)
end
section
variable {T : Addr → Prop} {K : PySem.W.Frag} {H H' : Hp} {v : V} {vs : List V} {c : Cond} {cs : List Cond}
mutual
theorem IsT.mono (k : Imm T H H') : ∀ {v : V} {c : Cond}, IsT H v c → IsT H' v c
  | _, _, .fixed h => .fixed (k _ _ h trivial)
  | _, _, .contact h => .contact (k _ _ h trivial)
  | _, _, .not h p => .not (k _ _ h trivial) (p.mono k)
  | _, _, .grp h p => .grp (k _ _ h trivial) (p.mono k)
theorem IsTs.mono (k : Imm T H H') : ∀ {vs : List V} {cs : List Cond}, IsTs H vs cs → IsTs H' vs cs
  | _, _, .nil => .nil
  | _, _, .cons p t => .cons (p.mono k) (t.mono k)
end
mutual
theorem IsT.dp : ∀ {v : V} {c : Cond}, IsT H v c → Dp K H v c.told
  | _, _, .fixed h => .tup (SqT.of h) (.cons (.str _) (.cons (.bl _) .nil))
  | _, _, .contact h => .tup (SqT.of h) (.cons (.str _) (.cons (.str _) .nil))
  | _, _, .not h p => .tup (SqT.of h) (.cons (.str _) (.cons p.dp .nil))
  | _, _, .grp h p => .tup (SqT.of h) (.cons (.str _) p.dp)
theorem IsTs.dp : ∀ {vs : List V} {cs : List Cond}, IsTs H vs cs → DpAll K H vs (Cond.tolds cs)
  | _, _, .nil => .nil
  | _, _, .cons p t => .cons p.dp t.dp
end
theorem IsTs.length : ∀ {vs : List V} {cs : List Cond}, IsTs H vs cs → vs.length = cs.length
  | _, _, .nil => rfl
  | _, _, .cons _ t => by rw [List.length_cons, List.length_cons, IsTs.length t]
theorem IsTs.at : ∀ {vs : List V} {cs : List Cond} {i : Nat} {v : V}, IsTs H vs cs → vs[i]? = some v → ∃ c, cs[i]? = some c ∧ IsT H v c
  | _, _, i, v, .nil, h => by simp at h
  | _, _, 0, v, .cons p t, h => by
    simp at h
    subst h
    exact ⟨_, rfl, p⟩
  | _, _, i + 1, v, .cons p t, h => by
    obtain ⟨c, h1, h2⟩ := IsTs.at (i := i) (v := v) t (by simpa using h)
    exact ⟨c, by simpa using h1, h2⟩
theorem IsTs.snoc : ∀ {vs : List V} {cs : List Cond} {v : V} {c : Cond}, IsTs H vs cs → IsT H v c → IsTs H (vs ++ [v]) (cs ++ [c])
  | _, _, _, _, .nil, p => .cons p .nil
  | _, _, _, _, .cons q t, p => .cons q (t.snoc p)
theorem IsT.ref (p : IsT H v c) : ∃ a xs, v = .ref a ∧ H a = some (.tup xs) := by
  cases p with
  | fixed h => exact ⟨_, _, rfl, h⟩
  | contact h => exact ⟨_, _, rfl, h⟩
  | not h _ => exact ⟨_, _, rfl, h⟩
  | grp h _ => exact ⟨_, _, rfl, h⟩
end
theorem IsTs.take {H : Hp} : ∀ {vs : List V} {cs : List Cond} (n : Nat), IsTs H vs cs → IsTs H (vs.take n) (cs.take n)
  | _, _, 0, _ => .nil
  | _, _, _ + 1, .nil => .nil
  | _, _, n + 1, .cons p t => .cons p (IsTs.take n t)
theorem IsTs.drop {H : Hp} : ∀ {vs : List V} {cs : List Cond} (n : Nat), IsTs H vs cs → IsTs H (vs.drop n) (cs.drop n)
  | _, _, 0, p => p
  | _, _, _ + 1, .nil => .nil
  | _, _, n + 1, .cons p t => IsTs.drop n t
theorem IsTs.app {H : Hp} : ∀ {vs ws : List V} {cs ds : List Cond}, IsTs H vs cs → IsTs H ws ds → IsTs H (vs ++ ws) (cs ++ ds)
  | _, _, _, _, .nil, q => q
  | _, _, _, _, .cons p t, q => .cons p (t.app q)
theorem IsTs.reverse {H : Hp} : ∀ {vs : List V} {cs : List Cond}, IsTs H vs cs → IsTs H vs.reverse cs.reverse
  | _, _, .nil => .nil
  | _, _, .cons p t => by
    rw [List.reverse_cons, List.reverse_cons]
    exact (IsTs.reverse t).snoc p
abbrev s_Fixed_told : Stmt := inClass (top 39) 2
theorem sc_Fixed_told : FnScope ["self"] ["self"] (defScope s_Fixed_told) := ⟨rfl, rfl, rfl, by decide +kernel, rfl, by decide +kernel, by decide +kernel⟩
abbrev s_Contact_told : Stmt := inClass (top 40) 2
theorem sc_Contact_told : FnScope ["self"] ["self"] (defScope s_Contact_told) := ⟨rfl, rfl, rfl, by decide +kernel, rfl, by decide +kernel, by decide +kernel⟩
abbrev s_Turned_told : Stmt := inClass (top 41) 3
theorem sc_Turned_told : FnScope ["self"] ["self"] (defScope s_Turned_told) := ⟨rfl, rfl, rfl, by decide +kernel, rfl, by decide +kernel, by decide +kernel⟩
abbrev s_Group_told : Stmt := inClass (top 42) 4
theorem sc_Group_told : FnScope ["self", "part"] ["self"] (defScope s_Group_told) := ⟨rfl, rfl, rfl, by decide +kernel, rfl, by decide +kernel, by decide +kernel⟩
abbrev s_Series_word : Stmt := inClass (top 43) 1
theorem sc_Series_word : FnScope ["self"] ["self"] (defScope s_Series_word) := ⟨rfl, rfl, rfl, by decide +kernel, rfl, by decide +kernel, by decide +kernel⟩
abbrev s_Branch_word : Stmt := inClass (top 44) 1
theorem sc_Branch_word : FnScope ["self"] ["self"] (defScope s_Branch_word) := ⟨rfl, rfl, rfl, by decide +kernel, rfl, by decide +kernel, by decide +kernel⟩
structure TTold (K : PySem.W.Frag) (mg : Str → Option Value) (cl : Cl) : Prop where
  parts : TParts K mg cl
  m_told_fx : MethAt K cl.fx "told" "Fixed.told" s_Fixed_told ["self"]
  m_told_ct : MethAt K cl.ct "told" "Contact.told" s_Contact_told ["self"]
  m_told_tn : MethAt K cl.tn "told" "Turned.told" s_Turned_told ["self"]
  m_told_sr : MethAt K cl.sr "told" "Group.told" s_Group_told ["self"]
  m_told_br : MethAt K cl.br "told" "Group.told" s_Group_told ["self"]
  m_word_sr : MethAt K cl.sr "word" "Series.word" s_Series_word ["self"]
  m_word_br : MethAt K cl.br "word" "Branch.word" s_Branch_word ["self"]
  z_tuple : mg "tuple" = none
section
variable {P : Program} {w : World} {K : PySem.W.Frag} {mg : Str → Option Value} {base : Heap} {cl : Cl}
def Cl.grp (cl : Cl) (C : Addr) : Prop := C = cl.sr ∨ C = cl.br
theorem Cl.grp_gr (cl : Cl) (s : Bool) : cl.grp (cl.gr s) := by
  cases s
  · exact .inr rfl
  · exact .inl rfl
theorem TParts.srbr (T : TParts K mg cl) : cl.sr ≠ cl.br := by
  have nd := T.nd
  simp only [List.nodup_cons, List.mem_cons, List.not_mem_nil, or_false, not_or] at nd
  exact nd.2.2.2.1
def spWordM (cl : Cl) (C : Addr) : Sp := fun vs H Q _ => ∃ (a dx : Addr) (fs : List (Str × V)) (s : Bool), vs = [.ref a] ∧ H a = some (.ins C dx fs) ∧ C = cl.gr s ∧ Q (.str (word s)) H
theorem disp_word (T : TTold K mg cl) : DispAt P w K mg base CX0 cl.grp "word" 1 ["self"] (spWordM cl) := by
  refine ⟨fun C hC => ?_⟩
  rcases hC with rfl | rfl
  · refine methAt_ok T.parts.c_Series.cl T.m_word_sr sc_Series_word (fun vs H Q E h => ?_) (fun f cdv A outer st H vs Q E hr h => ?_)
    · obtain ⟨a, dx, fs, s, rfl, _⟩ := h; rfl
    · obtain ⟨a, dx, fs, s, rfl, ha, hs, q⟩ := h
      refine ⟨_, (pss_one (ps_ret pe_str)), ?_⟩
      cases s
      · exact absurd hs T.parts.srbr
      · exact q
  · refine methAt_ok T.parts.c_Branch.cl T.m_word_br sc_Branch_word (fun vs H Q E h => ?_) (fun f cdv A outer st H vs Q E hr h => ?_)
    · obtain ⟨a, dx, fs, s, rfl, _⟩ := h; rfl
    · obtain ⟨a, dx, fs, s, rfl, ha, hs, q⟩ := h
      refine ⟨_, (pss_one (ps_ret pe_str)), ?_⟩
      cases s
      · exact q
      · exact absurd hs.symm T.parts.srbr
def spTold (cl : Cl) (n : Nat) (C : Addr) : Sp := fun vs H Q _ => ∃ (a dx : Addr) (fs : List (Str × V)) (c : Cond), vs = [.ref a] ∧ H a = some (.ins C dx fs) ∧ IsP cl H (.ref a) c ∧ c.depth ≤ n ∧ c.size ≤ 1000 ∧
  ∀ (H' : Hp) (v : V), Same H H' → IsT H' v c → Q v H'
theorem ok_told_fx (T : TTold K mg cl) (n : Nat) : ∃ f fd, Cls K cl.fx ∧ Meth K cl.fx "told" f ∧ Binds K fd ["self"] [] ∧ FnOk P w K mg base CX0 1 f fd ["self"] (spTold cl n cl.fx) := by
  refine methAt_ok T.parts.c_Fixed.cl T.m_told_fx sc_Fixed_told (fun vs H Q E h => ?_) (fun f cdv A outer st H vs Q E hr h => ?_)
  · obtain ⟨a, dx, fs, c, rfl, _⟩ := h; rfl
  · obtain ⟨a, dx, fs, c, rfl, ha, p, hd, hz, q⟩ := h
    obtain ⟨b, rfl, rfl⟩ := inv_fx T.parts.nd ha p
    refine ⟨_, (pss_one (ps_ret (pe_tup (pa_cons pe_str (pa_cons (pe_fld (pv 0) rfl) pa_nil))))), ?_⟩
    refine ⟨_, rfl, a, _, dx, _, _, rfl, ha, T.parts.c_Fixed.cl, T.parts.nv_fx, lk1s, line_ge (by simp), fun t nt => ?_⟩
    exact q _ _ (Same.new nt) (.fixed upd_same)
theorem ok_told_ct (T : TTold K mg cl) (n : Nat) : ∃ f fd, Cls K cl.ct ∧ Meth K cl.ct "told" f ∧ Binds K fd ["self"] [] ∧ FnOk P w K mg base CX0 1 f fd ["self"] (spTold cl n cl.ct) := by
  refine methAt_ok T.parts.c_Contact.cl T.m_told_ct sc_Contact_told (fun vs H Q E h => ?_) (fun f cdv A outer st H vs Q E hr h => ?_)
  · obtain ⟨a, dx, fs, c, rfl, _⟩ := h; rfl
  · obtain ⟨a, dx, fs, c, rfl, ha, p, hd, hz, q⟩ := h
    obtain ⟨b, rfl, rfl⟩ := inv_ct T.parts.nd ha p
    refine ⟨_, (pss_one (ps_ret (pe_tup (pa_cons pe_str (pa_cons (pe_fld (pv 0) rfl) pa_nil))))), ?_⟩
    refine ⟨_, rfl, a, _, dx, _, _, rfl, ha, T.parts.c_Contact.cl, T.parts.nn_ct, lk1s, line_ge (by simp), fun t nt => ?_⟩
    exact q _ _ (Same.new nt) (.contact upd_same)
theorem ok_told_tn (T : TTold K mg cl) {n k : Nat} (G_told : DispAt P w K mg base CX0 cl.has "told" k ["self"] (spTold cl n)) :
    ∃ f fd, Cls K cl.tn ∧ Meth K cl.tn "told" f ∧ Binds K fd ["self"] [] ∧ FnOk P w K mg base CX0 (k + 1) f fd ["self"] (spTold cl (n + 1) cl.tn) := by
  refine methAt_ok T.parts.c_Turned.cl T.m_told_tn sc_Turned_told (fun vs H Q E h => ?_) (fun f cdv A outer st H vs Q E hr h => ?_)
  · obtain ⟨a, dx, fs, c, rfl, _⟩ := h; rfl
  · obtain ⟨a, dx, fs, c, rfl, ha, p, hd, hz, q⟩ := h
    obtain ⟨v, c', rfl, rfl, p'⟩ := inv_tn T.parts.nd ha p
    rw [Cond.depth] at hd
    rw [Cond.size] at hz
    refine ⟨_, (pss_one (ps_ret (pe_tup (pa_cons pe_str (pa_cons (pe_methD0 G_told hr pass0 (pe_fld (pv 0) rfl) (Nat.le_refl _)) pa_nil))))), ?_⟩
    obtain ⟨a', C', dx', fs', rfl, ha', hC', hl'⟩ := meth_of (m := "told") (by decide +kernel) p'
    refine ⟨_, rfl, a, _, dx, _, _, rfl, ha, T.parts.c_Turned.cl, T.parts.np_tn, lk1s, a', C', dx', fs', rfl, ha', hC', hl', a', dx', fs', c', rfl, ha', p', by omega, by omega, fun H1 v s1 ht => ?_⟩
    refine ⟨line_ge (by simp), fun t nt => ?_⟩
    exact q _ _ (s1.trans (Same.new nt)) (.not upd_same (ht.mono (T := cl.has) (Imm.new nt)))
theorem ok_told_gr (T : TTold K mg cl) {n k : Nat} (G_told : DispAt P w K mg base CX0 cl.has "told" k ["self"] (spTold cl n)) (hk : 1 ≤ k) (s : Bool) (D : MethAt K (cl.gr s) "told" "Group.told" s_Group_told ["self"]) :
    ∃ f fd, Cls K (cl.gr s) ∧ Meth K (cl.gr s) "told" f ∧ Binds K fd ["self"] [] ∧ FnOk P w K mg base CX0 (k + 1) f fd ["self"] (spTold cl (n + 1) (cl.gr s)) := by
  have G_word : DispAt P w K mg base CX0 cl.grp "word" 1 ["self"] (spWordM cl) := disp_word T
  refine methAt_ok (T.parts.cls (cl.has_gr s)) D sc_Group_told (fun vs H Q E h => ?_) (fun f cdv A outer st H vs Q E hr h => ?_)
  · obtain ⟨a, dx, fs, c, rfl, _⟩ := h; rfl
  · obtain ⟨a, dx, fs, c, rfl, ha, p, hd, hz, q⟩ := h
    obtain ⟨t, ws, cs, rfl, rfl, ht, ps⟩ := inv_gr T.parts.nd rfl ha p
    rw [Cond.depth] at hd
    rw [Cond.size] at hz
    have hlen := ps.length
    have hz2 := Cond.len_sizes cs
    refine ⟨_, (pss_one (ps_ret (pe_op op_catT (pe_tup (pa_cons (pe_methD0 G_word hr pass0 (pv 0) hk) pa_nil)) (pe_callTy call_tuple_of (by rfl) T.z_tuple (show PySem.bootBuiltins "tuple" = some (.type "tuple") by decide +kernel) (pa_cons (pe_lc (own := [("part", 1)]) (g := gName 1) (tt := tYes) rfl sc_Group_told.nd (pi_tup (pe_fld (pv 0) rfl)) (blkOk_by (own := [("part", 1)]) (N := ["self", "part"]) (sc := defScope s_Group_told) (by decide +kernel)) (fun _ _ _ _ _ => pg_name (i := 1) sc_Group_told.nd rfl (Or.inl rfl)) (fun _ _ _ _ _ => pts_nil) (fun _ _ _ _ _ => (pe_methD0 G_told hr pass0 (pv 1) (Nat.le_refl _)))) pa_nil))))), ?_⟩
    refine ⟨_, rfl, a, _, dx, _, rfl, ha, cl.grp_gr s, lk1 (by decide +kernel), a, dx, _, s, rfl, ha, rfl, line_ge (by simp), fun t1 nt1 => ?_⟩
    have ha1 := Same.new nt1 (o := .tup [.str (word s)]) _ _ ha
    refine ⟨_, rfl, a, _, dx, _, _, rfl, ha1, T.parts.cls (cl.has_gr s), T.parts.np s, lk1s, ?_⟩
    have ht1 := Same.new nt1 (o := .tup [.str (word s)]) _ _ ht
    refine ⟨t, rfl, ⟨_, SqT.of ht1⟩, fun D nD => lc_tup (K := K) (a := t) (xs := ws) (fun i H' => Same (upd H t1 (.tup [.str (word s)])) H' ∧ ∃ vs, H' D = some (.lst vs) ∧ IsTs H' vs (cs.take i))
      ⟨Same.new nD, [], upd_same, by simpa using .nil⟩ (fun i H' _ q => SqT.of (q.1 _ _ ht1)) ?_ ?_⟩
    · rintro i y H2 hy ⟨q1, vs, q2, q3⟩
      obtain ⟨c', hc', p'⟩ := (ps.mono (Same.imm ((Same.new nt1).trans q1))).at hy
      obtain ⟨a', C', dx', fs', rfl, ha', hC', hl'⟩ := meth_of (m := "told") (by decide +kernel) p'
      have hm := List.mem_of_getElem? hc'
      have h1 := Cond.depth_mem hm
      have h2 := Cond.size_mem hm
      refine ⟨rfl, _, rfl, a', C', dx', fs', rfl, ha', hC', hl', a', dx', fs', c', rfl, ha', p', by omega, by omega, fun H3 v s3 hv => ?_⟩
      have q2' := s3 _ _ q2
      have hl := q3.length
      rw [List.length_take] at hl
      refine ⟨vs, q2', by rw [sizeLine_eq]; omega, Same.mut (q1.trans s3) nD, vs ++ [v], upd_same, ?_⟩
      have im : Imm cl.has H3 (upd H3 D (.lst (vs ++ [v]))) := Imm.mut q2' id
      rw [List.take_succ, hc']
      exact ((q3.mono (T := cl.has) (Same.imm s3)).mono im).snoc (hv.mono im)
    · rintro H2 ⟨q1, vs, q2, q3⟩
      rw [hlen, List.take_of_length_le (Nat.le_refl _)] at q3
      have hl := q3.length
      refine ⟨D, vs, rfl, .inl ⟨SqL.of q2, fun t2 nt2 => ?_⟩⟩
      have h1 : upd H2 t2 (.tup vs) t1 = some (.tup [.str (word s)]) := Same.new nt2 _ _ (q1 _ _ upd_same)
      have s2 : Same H (upd H2 t2 (.tup vs)) := ((Same.new nt1).trans q1).trans (Same.new nt2)
      have q4 : IsTs (upd H2 t2 (.tup vs)) vs cs := q3.mono (T := cl.has) (Imm.new nt2)
      refine ⟨t1, t2, _, _, rfl, rfl, SqT.of h1, SqT.of upd_same, by simp, line_ge (by simp; omega), fun e => ?_, fun _ t3 nt3 => ?_⟩
      · subst e
        have q4' := q4
        cases q4'
        exact q _ _ s2 (.grp h1 .nil)
      · exact q _ _ (s2.trans (Same.new nt3)) (.grp upd_same (q4.mono (T := cl.has) (Imm.new nt3)))
theorem disp_told (T : TTold K mg cl) : ∀ n : Nat, DispAt P w K mg base CX0 cl.has "told" (n + 1) ["self"] (spTold cl n)
  | 0 => by
    refine ⟨fun C hC => ?_⟩
    have vac : ∀ C vs H Q E, spTold cl 0 C vs H Q E → False := by
      rintro C vs H Q E ⟨a, dx, fs, c, rfl, ha, p, hd, _⟩
      exact absurd c.depth_pos (by omega)
    rcases hC with rfl | rfl | rfl | rfl | rfl
    · exact ok_told_fx T 0
    · exact ok_told_ct T 0
    all_goals
      refine methAt_ok (T.parts.cls (by simp [Cl.has])) (by first | exact T.m_told_tn | exact T.m_told_sr | exact T.m_told_br) (by first | exact sc_Turned_told | exact sc_Group_told) (fun vs H Q E h => (vac _ _ _ _ _ h).elim) (fun f cdv A outer s H vs Q E hr h => (vac _ _ _ _ _ h).elim)
  | n + 1 => by
    have ih := disp_told T n
    refine ⟨fun C hC => ?_⟩
    rcases hC with rfl | rfl | rfl | rfl | rfl
    · obtain ⟨f, fd, h1, h2, h3, h4⟩ := ok_told_fx (P := P) (w := w) (base := base) T (n + 1)
      exact ⟨f, fd, h1, h2, h3, h4.mono (by omega)⟩
    · obtain ⟨f, fd, h1, h2, h3, h4⟩ := ok_told_ct (P := P) (w := w) (base := base) T (n + 1)
      exact ⟨f, fd, h1, h2, h3, h4.mono (by omega)⟩
    · exact ok_told_tn T ih
    · exact ok_told_gr T ih (by omega) true T.m_told_sr
    · exact ok_told_gr T ih (by omega) false T.m_told_br
end

/-! ## parts: made -/
abbrev s_Fixed___init__ : Stmt := inClass (top 39) 0
theorem sc_Fixed___init__ : FnScope ["self", "value"] ["self", "value"] (defScope s_Fixed___init__) := ⟨rfl, rfl, rfl, by decide +kernel, rfl, by decide +kernel, by decide +kernel⟩
abbrev s_Contact___init__ : Stmt := inClass (top 40) 0
theorem sc_Contact___init__ : FnScope ["self", "name"] ["self", "name"] (defScope s_Contact___init__) := ⟨rfl, rfl, rfl, by decide +kernel, rfl, by decide +kernel, by decide +kernel⟩
abbrev s_Turned___init__ : Stmt := inClass (top 41) 0
theorem sc_Turned___init__ : FnScope ["self", "part"] ["self", "part"] (defScope s_Turned___init__) := ⟨rfl, rfl, rfl, by decide +kernel, rfl, by decide +kernel, by decide +kernel⟩
abbrev s_Group___init__ : Stmt := inClass (top 42) 0
theorem sc_Group___init__ : FnScope ["self", "parts"] ["self", "parts"] (defScope s_Group___init__) := ⟨rfl, rfl, rfl, by decide +kernel, rfl, by decide +kernel, by decide +kernel⟩
structure TMake (K : PySem.W.Frag) (mg : Str → Option Value) (cl : Cl) : Prop where
  names : TNames K mg
  parts : TParts K mg cl
  i_fx : MethAt K cl.fx "__init__" "Fixed.__init__" s_Fixed___init__ ["self", "value"]
  i_ct : MethAt K cl.ct "__init__" "Contact.__init__" s_Contact___init__ ["self", "name"]
  i_tn : MethAt K cl.tn "__init__" "Turned.__init__" s_Turned___init__ ["self", "part"]
  i_sr : MethAt K cl.sr "__init__" "Group.__init__" s_Group___init__ ["self", "parts"]
  i_br : MethAt K cl.br "__init__" "Group.__init__" s_Group___init__ ["self", "parts"]
  z_len : mg "len" = none
  z_tuple : mg "tuple" = none
section
variable {P : Program} {w : World} {K : PySem.W.Frag} {mg : Str → Option Value} {base : Heap} {cl : Cl}
/-- a new instance and its dict: what was tracked stays -/
theorem same_make {H : Hp} {x dx C : Addr} {fs : List (Str × V)} (nx : H x = none) (nd : H dx = none) : Same H (upd (upd H dx (.own x)) x (.ins C dx fs)) := fun b o e => by
  rw [upd_ne (ne_of_none e nx), upd_ne (ne_of_none e nd)]
  exact e
def spInitFx (cl : Cl) : Sp := fun vs H Q _ => ∃ (x dx : Addr) (b : Bool), vs = [.ref x, .bl b] ∧ H x = some (.ins cl.fx dx []) ∧ ∀ H' : Hp, H' x = some (.ins cl.fx dx [("value", .bl b)]) → But x H H' → Q .non H'
def spInitCt (cl : Cl) : Sp := fun vs H Q _ => ∃ (x dx : Addr) (n : Str), vs = [.ref x, .str n] ∧ H x = some (.ins cl.ct dx []) ∧ n.length ≤ sizeLine ∧ isName n = true ∧ ∀ H' : Hp, H' x = some (.ins cl.ct dx [("name", .str n)]) → But x H H' → Q .non H'
def spInitTn (cl : Cl) : Sp := fun vs H Q _ => ∃ (H0 : Hp) (x dx : Addr) (v : V) (c : Cond), vs = [.ref x, v] ∧ H x = some (.ins cl.tn dx []) ∧ Same H0 H ∧ H0 x = none ∧ IsP cl H0 v c ∧ c.size ≤ 59 ∧ c.depth ≤ 19 ∧
  ∀ H' : Hp, Same H0 H' → IsP cl H' (.ref x) (.not c) → Q .non H'
def spInitGr (cl : Cl) (s : Bool) : Sp := fun vs H Q _ => ∃ (H0 : Hp) (x dx l : Addr) (ws : List V) (cs : List Cond), vs = [.ref x, .ref l] ∧ H x = some (.ins (cl.gr s) dx []) ∧ Same H0 H ∧ H0 x = none ∧ H0 l = some (.lst ws) ∧ IsPs cl H0 ws cs ∧ 2 ≤ cs.length ∧ Cond.sizes cs ≤ 59 ∧ Cond.depths cs ≤ 19 ∧
  ∀ H' : Hp, Same H0 H' → IsP cl H' (.ref x) (.grp s cs) → Q .non H'
theorem ok_init_fx (T : TMake K mg cl) : MakAt P w K mg base CX0 "Fixed" cl.fx 1 ["self", "value"] (spInitFx cl) := by
  refine makAt_of T.parts.c_Fixed (methAt_ok T.parts.c_Fixed.cl T.i_fx sc_Fixed___init__ (fun vs H Q E h => ?_) (fun f cdv A outer s H vs Q E hr h => ?_))
  · obtain ⟨x, dx, b, rfl, _⟩ := h; rfl
  · obtain ⟨x, dx, b, rfl, hx, q⟩ := h
    refine ⟨_, (pss_one (ps_fld (pv 0) (pv 1) rfl)), ?_⟩
    refine ⟨_, rfl, _, rfl, x, _, dx, [], rfl, hx, T.parts.c_Fixed.cl, T.parts.nv_fx, (by show 0 < 1000; decide), ?_⟩
    exact q _ upd_same But.upd
theorem ok_init_ct (T : TMake K mg cl) : MakAt P w K mg base CX0 "Contact" cl.ct 3 ["self", "name"] (spInitCt cl) := by
  have G_is_name : FnAt P w K mg base CX0 "is_name" 2 _ spIsName := ok_is_name T.names
  refine makAt_of T.parts.c_Contact (methAt_ok T.parts.c_Contact.cl T.i_ct sc_Contact___init__ (fun vs H Q E h => ?_) (fun f cdv A outer s H vs Q E hr h => ?_))
  · obtain ⟨x, dx, n, rfl, _⟩ := h; rfl
  · obtain ⟨x, dx, n, rfl, hx, hl, hn, q⟩ := h
    refine ⟨_, (pss_cons (ps_if (pt_not (pt_val (pe_callF G_is_name hr pass0 (pa_cons (pv 1) pa_nil)))) (pss_one ps_never) pss_nil)
        (pss_one (ps_fld (pv 0) (pv 1) rfl))), ?_⟩
    refine ⟨_, rfl, n, rfl, hl, ?_⟩
    rw [hn]
    refine ⟨true, rfl, iteF ?_⟩
    refine ⟨_, rfl, _, rfl, x, _, dx, [], rfl, hx, T.parts.c_Contact.cl, T.parts.nn_ct, (by show 0 < 1000; decide), ?_⟩
    exact q _ upd_same But.upd
theorem ok_init_tn (T : TMake K mg cl) : MakAt P w K mg base CX0 "Turned" cl.tn 23 ["self", "part"] (spInitTn cl) := by
  have G_bounded : DispAt P w K mg base CX0 (fun C => C = cl.tn ∨ C = cl.sr ∨ C = cl.br) "bounded" 22 ["self"] (spBounded cl) := disp_bounded T.parts
  refine makAt_of T.parts.c_Turned (methAt_ok T.parts.c_Turned.cl T.i_tn sc_Turned___init__ (fun vs H Q E h => ?_) (fun f cdv A outer s H vs Q E hr h => ?_))
  · obtain ⟨H0, x, dx, v, c, rfl, _⟩ := h; rfl
  · obtain ⟨H0, x, dx, v, c, rfl, hx, s0, n0, p, hz, hd, q⟩ := h
    refine ⟨_, (pss_cons (ps_fld (pv 0) (pv 1) rfl)
        (pss_one (ps_expr (pe_methD0 G_bounded hr pass0 (pv 0))))), ?_⟩
    refine ⟨_, rfl, _, rfl, x, _, dx, [], rfl, hx, T.parts.c_Turned.cl, T.parts.np_tn, (by show 0 < 1000; decide), ?_⟩
    have s1 : Same H0 (upd H x (.ins cl.tn dx (putF "part" v []))) := Same.mut s0 n0
    have p1 : IsP cl (upd H x (.ins cl.tn dx (putF "part" v []))) (.ref x) (.not c) := .not upd_same (p.mono (Same.imm s1))
    refine ⟨_, rfl, x, _, dx, _, rfl, upd_same, .inl rfl, lk1 (by decide +kernel), x, dx, _, .not c, rfl, upd_same, p1, ?_, ?_, fun H2 s2 => ?_⟩
    · rw [Cond.depth]; omega
    · rw [Cond.size]; omega
    · exact q _ (s1.trans s2) (p1.mono (Same.imm s2))
theorem ok_init_gr (T : TMake K mg cl) (s : Bool) {nm : Str} (c : ClsAt K mg nm (cl.gr s)) (D : MethAt K (cl.gr s) "__init__" "Group.__init__" s_Group___init__ ["self", "parts"]) : MakAt P w K mg base CX0 nm (cl.gr s) 23 ["self", "parts"] (spInitGr cl s) := by
  have G_bounded : DispAt P w K mg base CX0 (fun C => C = cl.tn ∨ C = cl.sr ∨ C = cl.br) "bounded" 22 ["self"] (spBounded cl) := disp_bounded T.parts
  refine makAt_of c (methAt_ok c.cl D sc_Group___init__ (fun vs H Q E h => ?_) (fun f cdv A outer st H vs Q E hr h => ?_))
  · obtain ⟨H0, x, dx, l, ws, cs, rfl, _⟩ := h; rfl
  · obtain ⟨H0, x, dx, l, ws, cs, rfl, hx, s0, n0, hl, ps, h2, hz, hd, q⟩ := h
    have hlen := ps.length
    refine ⟨_, (pss_cons (ps_if (pt_cmpR op_lt (pe_callB call_len_seq (by rfl) T.z_len PySem.boot_len (pa_cons (pv 1) pa_nil)) pe_int (nomark _)) (pss_one ps_never) pss_nil)
        (pss_cons (ps_fld (pv 0) (pe_callTy call_tuple_of (by rfl) T.z_tuple (show PySem.bootBuiltins "tuple" = some (.type "tuple") by decide +kernel) (pa_cons (pv 1) pa_nil)) rfl)
        (pss_one (ps_expr (pe_methD0 G_bounded hr pass0 (pv 0)))))), ?_⟩
    refine ⟨_, rfl, l, ws, rfl, .inl (SqL.of (s0 _ _ hl)), _, _, rfl, rfl, _, rfl, ?_⟩
    rw [decide_eq_false (show ¬ ((ws.length : Int) < 2) by omega)]
    refine iteF ⟨_, rfl, l, ws, rfl, .inl ⟨SqL.of (s0 _ _ hl), fun t nt => ?_⟩⟩
    have hx1 : upd H t (.tup ws) x = some (.ins (cl.gr s) dx []) := Same.new nt _ _ hx
    have ntx : t ≠ x := (ne_of_none hx nt).symm
    refine ⟨_, rfl, x, _, dx, [], rfl, hx1, T.parts.cls (cl.has_gr s), T.parts.np s, (by show 0 < 1000; decide), ?_⟩
    have s1 : Same H0 (upd (upd H t (.tup ws)) x (.ins (cl.gr s) dx (putF "parts" (.ref t) []))) := Same.mut (s0.trans (Same.new nt)) n0
    have p1 : IsP cl (upd (upd H t (.tup ws)) x (.ins (cl.gr s) dx (putF "parts" (.ref t) []))) (.ref x) (.grp s cs) := .grp upd_same (by rw [upd_ne ntx, upd_same]) (ps.mono (Same.imm s1))
    refine ⟨_, rfl, x, _, dx, _, rfl, upd_same, (by cases s; exact .inr (.inr rfl); exact .inr (.inl rfl)), lk1 (by decide +kernel), x, dx, _, .grp s cs, rfl, upd_same, p1, ?_, ?_, fun H2 s2 => ?_⟩
    · rw [Cond.depth]; omega
    · rw [Cond.size]; omega
    · exact q _ (s1.trans s2) (p1.mono (Same.imm s2))
/-! ### what making asks -/
theorem mk_fx {H : Hp} {b : Bool} {Q : VK} {E : XK} (k : ∀ H' x, Same H H' → IsP cl H' (.ref x) (.fixed b) → Q (.ref x) H') : ∀ x dx, H x = none → H dx = none → dx ≠ x → spInitFx cl (.ref x :: ([.bl b] ++ [])) (upd (upd H dx (.own x)) x (.ins cl.fx dx [])) (fun v H' => v = .non ∧ Q (.ref x) H') E :=
  fun x dx nx nd ne => ⟨x, dx, b, rfl, upd_same, fun H' h1 h2 => ⟨rfl, k H' x (fun c o e => h2 c o (same_make nx nd c o e) (ne_of_none e nx)) (.fixed h1)⟩⟩
theorem mk_ct {H : Hp} {n : Str} {Q : VK} {E : XK} (hl : n.length ≤ sizeLine) (hn : isName n = true) (k : ∀ H' x, Same H H' → IsP cl H' (.ref x) (.contact n) → Q (.ref x) H') : ∀ x dx, H x = none → H dx = none → dx ≠ x → spInitCt cl (.ref x :: ([.str n] ++ [])) (upd (upd H dx (.own x)) x (.ins cl.ct dx [])) (fun v H' => v = .non ∧ Q (.ref x) H') E :=
  fun x dx nx nd ne => ⟨x, dx, n, rfl, upd_same, hl, hn, fun H' h1 h2 => ⟨rfl, k H' x (fun c o e => h2 c o (same_make nx nd c o e) (ne_of_none e nx)) (.contact h1)⟩⟩
theorem mk_tn {H : Hp} {v : V} {c : Cond} {Q : VK} {E : XK} (p : IsP cl H v c) (hz : c.size ≤ 59) (hd : c.depth ≤ 19) (k : ∀ H' x, Same H H' → IsP cl H' (.ref x) (.not c) → Q (.ref x) H') : ∀ x dx, H x = none → H dx = none → dx ≠ x → spInitTn cl (.ref x :: ([v] ++ [])) (upd (upd H dx (.own x)) x (.ins cl.tn dx [])) (fun v H' => v = .non ∧ Q (.ref x) H') E :=
  fun x dx nx nd ne => ⟨H, x, dx, v, c, rfl, upd_same, same_make nx nd, nx, p, hz, hd, fun H' h1 h2 => ⟨rfl, k H' x h1 h2⟩⟩
theorem mk_gr {H : Hp} {s : Bool} {l : Addr} {ws : List V} {cs : List Cond} {Q : VK} {E : XK} (hl : H l = some (.lst ws)) (p : IsPs cl H ws cs) (h2 : 2 ≤ cs.length) (hz : Cond.sizes cs ≤ 59) (hd : Cond.depths cs ≤ 19) (k : ∀ H' x, Same H H' → IsP cl H' (.ref x) (.grp s cs) → Q (.ref x) H') :
    ∀ x dx, H x = none → H dx = none → dx ≠ x → spInitGr cl s (.ref x :: ([.ref l] ++ [])) (upd (upd H dx (.own x)) x (.ins (cl.gr s) dx [])) (fun v H' => v = .non ∧ Q (.ref x) H') E :=
  fun x dx nx nd ne => ⟨H, x, dx, l, ws, cs, rfl, upd_same, same_make nx nd, nx, hl, p, h2, hz, hd, fun H' h1 h2 => ⟨rfl, k H' x h1 h2⟩⟩
end

/-! ## part_of -/
abbrev s_single : Stmt := top 46
theorem sc_single : FnScope ["told"] ["told"] (defScope s_single) := ⟨rfl, rfl, rfl, by decide +kernel, rfl, by decide +kernel, by decide +kernel⟩
abbrev s_joined : Stmt := top 47
theorem sc_joined : FnScope ["kind", "parts"] ["kind", "parts"] (defScope s_joined) := ⟨rfl, rfl, rfl, by decide +kernel, rfl, by decide +kernel, by decide +kernel⟩
abbrev s_part_of : Stmt := top 48
theorem sc_part_of : FnScope ["told", "opened", "found", "one", "parts", "is_single"] ["told"] (defScope s_part_of) := ⟨rfl, rfl, rfl, by decide +kernel, rfl, by decide +kernel, by decide +kernel⟩
structure TPartOf (K : PySem.W.Frag) (mg : Str → Option Value) (cl : Cl) : Prop where
  make : TMake K mg cl
  d_single : DefAt K mg "single" s_single ["told"]
  d_joined : DefAt K mg "joined" s_joined ["kind", "parts"]
  d_part_of : DefAt K mg "part_of" s_part_of ["told"]
  z_len : mg "len" = none
mutual
/-- names are names, groups have two parts or more -/
def Cond.ok : Cond → Bool
  | .fixed _ => true
  | .contact n => isName n
  | .not c => c.ok
  | .grp _ cs => decide (2 ≤ cs.length) && Cond.oks cs
def Cond.oks : List Cond → Bool
  | [] => true
  | c :: cs => c.ok && Cond.oks cs
end
theorem Cond.oks_mem : ∀ {cs : List Cond} {c : Cond}, Cond.oks cs = true → c ∈ cs → c.ok = true
  | x :: cs, c, h, m => by
    rw [Cond.oks, Bool.and_eq_true] at h
    rcases List.mem_cons.mp m with rfl | m
    · exact h.1
    · exact Cond.oks_mem h.2 m
theorem Cond.ok_kids {c : Cond} (h : c.ok = true) : Cond.oks c.kids = true := by
  cases c with
  | fixed b => rfl
  | contact n => rfl
  | not c => simpa [Cond.kids, Cond.oks, Cond.ok] using h
  | grp s cs =>
    rw [Cond.ok, Bool.and_eq_true] at h
    exact h.2
theorem isName_len {z : Str} (h : isName z = true) : z.length ≤ 8 := by
  unfold isName at h
  simp only [Bool.and_eq_true, decide_eq_true_eq] at h
  exact h.1.2
def Cond.single : Cond → Bool
  | .fixed _ => true
  | .contact _ => true
  | _ => false

section
variable {P : Program} {w : World} {K : PySem.W.Frag} {mg : Str → Option Value} {base : Heap} {cl : Cl}
def spSingle (cl : Cl) : Sp := fun vs H Q _ => ∃ (v : V) (c : Cond), vs = [v] ∧ IsT H v c ∧ c.single = true ∧ c.ok = true ∧ ∀ (H' : Hp) (x : Addr), Same H H' → IsP cl H' (.ref x) c → Q (.ref x) H'
theorem ok_single (T : TPartOf K mg cl) : FnAt P w K mg base CX0 "single" 5 ["told"] (spSingle cl) := by
  have M_Fixed : MakAt P w K mg base CX0 "Fixed" cl.fx 1 ["self", "value"] (spInitFx cl) := ok_init_fx T.make
  have M_Contact : MakAt P w K mg base CX0 "Contact" cl.ct 3 ["self", "name"] (spInitCt cl) := ok_init_ct T.make
  refine fnAt_ok T.d_single sc_single (fun vs H Q E h => ?_) (fun f cdv A outer s H vs Q E hr h => ?_)
  · obtain ⟨v, c, rfl, _⟩ := h; rfl
  · obtain ⟨v, c, rfl, ht, hs, hok, k⟩ := h
    refine ⟨_, (pss_one (ps_ret (pe_ifExp (pt_cmpR op_eq (pe_ix ix_tup (pv 0) pe_int (fun _ _ => rfl)) pe_str (nomark _)) (pe_makeF M_Fixed hr pass0 (pa_cons (pe_ix ix_tup (pv 0) pe_int (fun _ _ => rfl)) pa_nil)) (pe_makeF M_Contact hr pass0 (pa_cons (pe_ix ix_tup (pv 0) pe_int (fun _ _ => rfl)) pa_nil))))), ?_⟩
    cases ht with
    | @fixed t b h =>
      refine ⟨_, rfl, t, _, 0, .str "fixed", rfl, rfl, SqT.of h, rfl, rfl, _, rfl, ?_⟩
      rw [decide_eq_true rfl]
      refine iteT ⟨_, rfl, t, _, 1, .bl b, rfl, rfl, SqT.of h, rfl, ?_⟩
      exact mk_fx fun H' x s' p => k H' x s' p
    | @contact t n h =>
      refine ⟨_, rfl, t, _, 0, .str "contact", rfl, rfl, SqT.of h, rfl, rfl, _, rfl, ?_⟩
      rw [decide_eq_false (show ¬ (V.str "contact" = V.str "fixed") by decide +kernel)]
      refine iteF ⟨_, rfl, t, _, 1, .str n, rfl, rfl, SqT.of h, rfl, ?_⟩
      exact mk_ct (line_ge (Nat.le_trans (isName_len hok) (by decide))) hok fun H' x s' p => k H' x s' p
    | not h p => cases hs
    | grp h p => cases hs
def kindS : Cond → Str
  | .not _ => "not"
  | .grp s _ => word s
  | .fixed _ => "fixed"
  | .contact _ => "contact"
def spJoined (cl : Cl) : Sp := fun vs H Q _ => ∃ (l : Addr) (ws : List V) (c : Cond), vs = [.str (kindS c), .ref l] ∧ H l = some (.lst ws) ∧ c.single = false ∧ c.ok = true ∧ IsPs cl H ws c.kids ∧ c.size ≤ 60 ∧ c.depth ≤ 20 ∧
  ∀ (H' : Hp) (x : Addr), Same H H' → IsP cl H' (.ref x) c → Q (.ref x) H'
theorem ok_joined (T : TPartOf K mg cl) : FnAt P w K mg base CX0 "joined" 25 ["kind", "parts"] (spJoined cl) := by
  have M_Turned : MakAt P w K mg base CX0 "Turned" cl.tn 23 ["self", "part"] (spInitTn cl) := ok_init_tn T.make
  have M_Series : MakAt P w K mg base CX0 "Series" cl.sr 23 ["self", "parts"] (spInitGr cl true) := ok_init_gr T.make true T.make.parts.c_Series T.make.i_sr
  have M_Branch : MakAt P w K mg base CX0 "Branch" cl.br 23 ["self", "parts"] (spInitGr cl false) := ok_init_gr T.make false T.make.parts.c_Branch T.make.i_br
  refine fnAt_ok T.d_joined sc_joined (fun vs H Q E h => ?_) (fun f cdv A outer s H vs Q E hr h => ?_)
  · obtain ⟨l, ws, c, rfl, _⟩ := h; rfl
  · obtain ⟨l, ws, c, rfl, hl, hs, hok, ps, hz, hd, k⟩ := h
    refine ⟨_, (pss_cons (ps_if (pt_cmpR op_eq (pv 0) pe_str (nomark _)) (pss_one (ps_ret (pe_makeF M_Turned hr pass0 (pa_cons (pe_ix ix_list (pv 1) pe_int (fun _ _ => rfl)) pa_nil)))) pss_nil)
        (pss_cons (ps_if (pt_cmpR op_eq (pv 0) pe_str (nomark _)) (pss_one (ps_ret (pe_makeF M_Series hr pass0 (pa_cons (pv 1) pa_nil)))) pss_nil)
        (pss_one (ps_ret (pe_makeF M_Branch hr pass0 (pa_cons (pv 1) pa_nil)))))), ?_⟩
    cases c with
    | fixed b => cases hs
    | contact n => cases hs
    | not c =>
      rw [Cond.size] at hz
      rw [Cond.depth] at hd
      obtain ⟨v, rfl, p⟩ : ∃ v, ws = [v] ∧ IsP cl H v c := by
        cases ps with
        | cons p t => cases t; exact ⟨_, rfl, p⟩
      refine ⟨_, rfl, rfl, _, rfl, ?_⟩
      rw [decide_eq_true (show V.str (kindS (.not c)) = V.str "not" from rfl)]
      refine iteT ⟨_, rfl, l, _, 0, v, rfl, rfl, SqL.of hl, rfl, ?_⟩
      exact mk_tn p (by omega) (by omega) fun H' x s' p => k H' x s' p
    | grp s cs =>
      rw [Cond.size] at hz
      rw [Cond.depth] at hd
      rw [Cond.ok, Bool.and_eq_true, decide_eq_true_eq] at hok
      refine ⟨_, rfl, rfl, _, rfl, ?_⟩
      cases s with
      | true =>
        rw [decide_eq_false (show ¬ (V.str (kindS (.grp true cs)) = V.str "not") by show ¬ (V.str (Str.ofString "and") = V.str "not"); decide +kernel)]
        refine iteF ⟨_, rfl, rfl, _, rfl, ?_⟩
        rw [decide_eq_true (show V.str (kindS (.grp true cs)) = V.str "and" from rfl)]
        refine iteT ⟨_, rfl, ?_⟩
        exact mk_gr (cs := cs) hl ps hok.1 (by omega) (by omega) fun H' x s' p => k H' x s' p
      | false =>
        rw [decide_eq_false (show ¬ (V.str (kindS (.grp false cs)) = V.str "not") by show ¬ (V.str (Str.ofString "or") = V.str "not"); decide +kernel)]
        refine iteF ⟨_, rfl, rfl, _, rfl, ?_⟩
        rw [decide_eq_false (show ¬ (V.str (kindS (.grp false cs)) = V.str "and") by show ¬ (V.str (Str.ofString "or") = V.str "and"); decide +kernel)]
        refine iteF ⟨_, rfl, ?_⟩
        exact mk_gr (cs := cs) hl ps hok.1 (by omega) (by omega) fun H' x s' p => k H' x s' p
/-! ### the stack -/
/-- what is open: a condition, its parts that are made, the list that holds them -/
structure Frame where
  c : Cond
  ds : List Cond
  pl : Addr
structure Fr1 (cl : Cl) (H0 H : Hp) (v : V) (f : Frame) : Prop where
  ex : ∃ (tp t : Addr) (ws : List V), v = .ref tp ∧ H tp = some (.tup [.ref t, .ref f.pl]) ∧ IsT H (.ref t) f.c ∧ H f.pl = some (.lst ws) ∧ IsPs cl H ws f.ds
  new : H0 f.pl = none
  pre : f.ds = f.c.kids.take f.ds.length
  sz : f.c.size ≤ 60
  dp : f.c.depth ≤ 20
  ok : f.c.ok = true
inductive Stk (cl : Cl) (H0 H : Hp) (root : Cond) : List V → List Frame → Prop
  | one {v : V} {f : Frame} (h : Fr1 cl H0 H v f) (hr : f.c = root) : Stk cl H0 H root [v] [f]
  | push {v : V} {vs : List V} {f g : Frame} {r : List Frame} (s : Stk cl H0 H root vs (g :: r)) (h : Fr1 cl H0 H v f) (hk : g.c.kids[g.ds.length]? = some f.c) (ne : ∀ e ∈ g :: r, e.pl ≠ f.pl) : Stk cl H0 H root (vs ++ [v]) (f :: g :: r)
theorem Fr1.keep {H0 H H' : Hp} {v : V} {f : Frame} (k : Imm cl.has H H') (kl : ∀ ws, H f.pl = some (.lst ws) → H' f.pl = some (.lst ws)) (h : Fr1 cl H0 H v f) : Fr1 cl H0 H' v f := by
  obtain ⟨⟨tp, t, ws, e, h1, h2, h3, h4⟩, a, b, c, d, g⟩ := h
  exact ⟨⟨tp, t, ws, e, k _ _ h1 trivial, h2.mono k, kl _ h3, h4.mono k⟩, a, b, c, d, g⟩
theorem Stk.keep {H0 H H' : Hp} {root : Cond} (k : Imm cl.has H H') : ∀ {vs : List V} {fr : List Frame}, (∀ f ∈ fr, ∀ ws, H f.pl = some (.lst ws) → H' f.pl = some (.lst ws)) → Stk cl H0 H root vs fr → Stk cl H0 H' root vs fr
  | _, _, kl, .one h hr => .one (h.keep k (kl _ (List.mem_singleton.mpr rfl))) hr
  | _, _, kl, .push s h hk ne => .push (Stk.keep k (fun f hf => kl f (List.mem_cons_of_mem _ hf)) s) (h.keep k (kl _ List.mem_cons_self)) hk ne
theorem Stk.ne {H0 H : Hp} {root : Cond} {vs : List V} {fr : List Frame} (s : Stk cl H0 H root vs fr) : fr ≠ [] ∧ vs ≠ [] := by
  cases s <;> simp
theorem Stk.len {H0 H : Hp} {root : Cond} : ∀ {vs : List V} {fr : List Frame}, Stk cl H0 H root vs fr → vs.length = fr.length
  | _, _, .one _ _ => rfl
  | _, _, .push s _ _ _ => by rw [List.length_append, Stk.len s]; rfl
/-- the deeper, the smaller -/
theorem Stk.deep {H0 H : Hp} {root : Cond} : ∀ {vs : List V} {fr : List Frame} {f : Frame} {r : List Frame}, Stk cl H0 H root vs fr → fr = f :: r → r.length + f.c.depth ≤ root.depth
  | _, _, _, _, .one h hr, e => by
    cases e
    rw [hr]
    simp
  | _, _, _, _, .push (g := g) s h hk ne, e => by
    cases e
    have ih := Stk.deep s rfl
    have h1 := Cond.depth_mem (List.mem_of_getElem? hk)
    have h2 := g.c.depth_kids
    rw [List.length_cons]
    omega
theorem Stk.lists {H0 H : Hp} {root : Cond} : ∀ {vs : List V} {fr : List Frame}, Stk cl H0 H root vs fr → ∀ f ∈ fr, ∃ ws, H f.pl = some (.lst ws)
  | _, _, .one h hr, f, hf => by
    obtain ⟨⟨tp, t, ws, e, h1, h2, h3, h4⟩, _⟩ := h
    rw [List.mem_singleton.mp hf]
    exact ⟨_, h3⟩
  | _, _, .push s h hk ne, f, hf => by
    rcases List.mem_cons.mp hf with rfl | hf
    · obtain ⟨⟨tp, t, ws, e, h1, h2, h3, h4⟩, _⟩ := h
      exact ⟨_, h3⟩
    · exact Stk.lists s f hf
/-- the top one is another one -/
theorem Stk.swap {H0 H H' : Hp} {root : Cond} {vs vs1 : List V} {v1 : V} {g g' : Frame} {r : List Frame} (s : Stk cl H0 H root vs (g :: r)) (k : Imm cl.has H H') (kl : ∀ e : Frame, e.pl ≠ g.pl → ∀ ws, H e.pl = some (.lst ws) → H' e.pl = some (.lst ws)) (ev : vs = vs1 ++ [v1]) (h : Fr1 cl H0 H' v1 g') (ec : g'.c = g.c) (ep : g'.pl = g.pl) : Stk cl H0 H' root vs (g' :: r) := by
  cases s with
  | @one v _ h0 hr =>
    have e1 : vs1 = [] ∧ v = v1 := by
      cases vs1 with
      | nil => exact ⟨rfl, by simpa using ev⟩
      | cons a b => simp at ev
    obtain ⟨rfl, rfl⟩ := e1
    exact .one h (ec.trans hr)
  | @push v vs0 _ g0 r0 s h0 hk ne =>
    have e1 := List.append_inj_left' ev rfl
    have e2 : v = v1 := by
      have := List.append_inj_right' ev rfl
      simpa using this
    subst e1 e2
    exact .push (s.keep k fun e he ws hw => kl e (ne e he) ws hw) h (by rw [ec]; exact hk) (fun e he => by rw [ep]; exact ne e he)
/-- what is left to do -/
def lows : List Frame → Nat
  | [] => 0
  | g :: r => 1 + 2 * Cond.sizes (g.c.kids.drop (g.ds.length + 1)) + lows r
def mu : List Frame → Nat
  | [] => 0
  | f :: r => 1 + 2 * Cond.sizes (f.c.kids.drop f.ds.length) + lows r
theorem mu_push {f g : Frame} {r : List Frame} (hk : g.c.kids[g.ds.length]? = some f.c) (hd : f.ds = []) : mu (f :: g :: r) < mu (g :: r) := by
  have e : g.c.kids.drop g.ds.length = f.c :: g.c.kids.drop (g.ds.length + 1) := by
    obtain ⟨h1, h2⟩ := List.getElem?_eq_some_iff.mp hk
    rw [List.drop_eq_getElem_cons h1, h2]
  have e2 := f.c.size_kids
  show 1 + 2 * Cond.sizes (f.c.kids.drop f.ds.length) + (1 + 2 * Cond.sizes (g.c.kids.drop (g.ds.length + 1)) + lows r) < 1 + 2 * Cond.sizes (g.c.kids.drop g.ds.length) + lows r
  rw [e, Cond.sizes, hd, List.length_nil, List.drop_zero]
  omega
theorem mu_pop {f g g' : Frame} {r : List Frame} (hc : g'.c = g.c) (hl : g'.ds.length = g.ds.length + 1) : mu (g' :: r) < mu (f :: g :: r) := by
  show 1 + 2 * Cond.sizes (g'.c.kids.drop g'.ds.length) + lows r < 1 + 2 * Cond.sizes (f.c.kids.drop f.ds.length) + (1 + 2 * Cond.sizes (g.c.kids.drop (g.ds.length + 1)) + lows r)
  rw [hc, hl]
  omega
theorem IsT.shape {H : Hp} {t : Addr} {c : Cond} (p : IsT H (.ref t) c) : ∃ rest, H t = some (.tup (.str (kindS c) :: rest)) ∧ (c.single = false → IsTs H rest c.kids) := by
  cases p with
  | fixed h => exact ⟨_, h, fun e => nomatch e⟩
  | contact h => exact ⟨_, h, fun e => nomatch e⟩
  | not h p => exact ⟨_, h, fun _ => .cons p .nil⟩
  | grp h p => exact ⟨_, h, fun _ => p⟩
theorem single_in (c : Cond) : inV (.str (kindS c)) [.str "fixed", .str "contact"] = c.single := by
  cases c with
  | fixed b => show inV (.str (Str.ofString "fixed")) [.str "fixed", .str "contact"] = true; decide +kernel
  | contact b => show inV (.str (Str.ofString "contact")) [.str "fixed", .str "contact"] = true; decide +kernel
  | not b => show inV (.str (Str.ofString "not")) [.str "fixed", .str "contact"] = false; decide +kernel
  | grp s cs =>
    cases s
    · show inV (.str (Str.ofString "or")) [.str "fixed", .str "contact"] = false; decide +kernel
    · show inV (.str (Str.ofString "and")) [.str "fixed", .str "contact"] = false; decide +kernel
theorem single_kids {c : Cond} (h : c.single = true) : c.kids = [] := by
  cases c with
  | fixed b => rfl
  | contact b => rfl
  | not b => cases h
  | grp s cs => cases h
def spPartOf (cl : Cl) : Sp := fun vs H Q _ => ∃ (v : V) (c : Cond), vs = [v] ∧ IsT H v c ∧ c.ok = true ∧ c.size ≤ 60 ∧ c.depth ≤ 20 ∧ ∀ (H' : Hp) (x : Addr), Same H H' → IsP cl H' (.ref x) c → Q (.ref x) H'
/-- the invariant of the loop -/
def PInv (cl : Cl) (H0 : Hp) (told : V) (op : Addr) (root : Cond) (m : Nat) (σ : L2.St) (H : Hp) : Prop :=
  ∃ (vs : List V) (fr : List Frame) (x : V) (o1 o2 o3 : Option V), σ = [some told, some (.ref op), some x, o1, o2, o3] ∧ H op = some (.lst vs) ∧ H0 op = none ∧ Same H0 H ∧ m = mu fr ∧
    ((fr = [] ∧ vs = [] ∧ ∃ a, x = .ref a ∧ IsP cl H x root) ∨ (Stk cl H0 H root vs fr ∧ ∀ f ∈ fr, f.pl ≠ op))
theorem ok_part_of (T : TPartOf K mg cl) : FnAt P w K mg base CX0 "part_of" 26 ["told"] (spPartOf cl) := by
  have G_single : FnAt P w K mg base CX0 "single" 5 _ (spSingle cl) := ok_single T
  have G_joined : FnAt P w K mg base CX0 "joined" 25 _ (spJoined cl) := ok_joined T
  refine fnAt_ok T.d_part_of sc_part_of (fun vs H Q E h => ?_) (fun f cdv A outer s H vs Q E hr h => ?_)
  · obtain ⟨v, c, rfl, _⟩ := h; rfl
  · obtain ⟨v, root, rfl, ht, hok, hz, hd, k⟩ := h
    obtain ⟨t0, x0, rfl, ht0⟩ := ht.ref
    refine ⟨_, (pss_cons (ps_set (i := 1) sc_part_of.nd rfl (by first | exact Or.inl rfl | exact Or.inr rfl) (pe_lst (pa_cons (pe_tup (pa_cons (pv 0) (pa_cons (pe_lst pa_nil) pa_nil))) pa_nil)))
        (pss_cons (ps_set (i := 2) sc_part_of.nd rfl (by first | exact Or.inl rfl | exact Or.inr rfl) pe_non)
        (pss_cons (ps_while PassesOwn.never (pt_cmpR (op_neE hr.units0) (pv 1) (pe_lst pa_nil) (nomark _)) (pss_cons (ps_asg (pe_ix ix_list (pv 1) (pe_un un_neg pe_int) (fun _ _ => rfl)) (pg_tup rfl (pgs_cons (pg_name (i := 3) sc_part_of.nd rfl (by first | exact Or.inl rfl | exact Or.inr rfl)) (pgs_cons (pg_name (i := 4) sc_part_of.nd rfl (by first | exact Or.inl rfl | exact Or.inr rfl)) pgs_nil))))
          (pss_cons (ps_set (i := 5) sc_part_of.nd rfl (by first | exact Or.inl rfl | exact Or.inr rfl) (pe_cmpR op_in_seq (pe_ix ix_tup (pv 3) pe_int (fun _ _ => rfl)) (pe_tup (pa_cons pe_str (pa_cons pe_str pa_nil))) rfl))
          (C8.pss_cut (ps_if (PW.pt (pw_and (pt_not (pt_val (pv 5))) (pw_and1 (pt_cmpR op_lt (pe_callB call_len_seq (by rfl) T.z_len PySem.boot_len (pa_cons (pv 4) pa_nil)) (pe_op op_sub (pe_callB call_len_seq (by rfl) T.z_len PySem.boot_len (pa_cons (pv 3) pa_nil)) pe_int) (nomark _))))) (pss_cons (ps_expr (pe_bm PySem.F.plainAttrs_list PySem.F.slot_list_append PySem.F.type_list_append mt_append (pv 1) (pa_cons (pe_tup (pa_cons (pe_ix ix_tup (pv 3) (pe_op op_add pe_int (pe_callB call_len_seq (by rfl) T.z_len PySem.boot_len (pa_cons (pv 4) pa_nil))) (fun _ _ => rfl)) (pa_cons (pe_lst pa_nil) pa_nil))) pa_nil)))
            (pss_one ps_continue)) pss_nil)
          (C8.pss_cut (ps_expr (pe_bm0 PySem.F.plainAttrs_list PySem.F.slot_list_pop PySem.F.type_list_pop mt_pop (pv 1)))
          (C8.pss_cut (ps_set (i := 2) sc_part_of.nd rfl (by first | exact Or.inl rfl | exact Or.inr rfl) (pe_ifExp (pt_val (pv 5)) (pe_callF G_single hr pass0 (pa_cons (pv 3) pa_nil)) (pe_callF G_joined hr pass0 (pa_cons (pe_ix ix_tup (pv 3) pe_int (fun _ _ => rfl)) (pa_cons (pv 4) pa_nil)))))
          (pss_one (ps_if (pt_cmpR (op_neE hr.units0) (pv 1) (pe_lst pa_nil) (nomark _)) (pss_one (ps_expr (pe_bm PySem.F.plainAttrs_list PySem.F.slot_list_append PySem.F.type_list_append mt_append (pe_ix ix_tup (pe_ix ix_list (pv 1) (pe_un un_neg pe_int) (fun _ _ => rfl)) pe_int (fun _ _ => rfl)) (pa_cons (pv 2) pa_nil)))) pss_nil))))))))
        (pss_one (ps_ret (pv 2)))))), ?_⟩
    refine ⟨_, rfl, Nat.zero_le _, fun p1 n1 => ⟨line_ge (by simp), fun tp n2 => ⟨line_ge (by simp), fun op n3 => ?_⟩⟩⟩
    have s1 : Same H (upd H p1 (.lst [])) := Same.new n1
    have s2 : Same (upd H p1 (.lst [])) (upd (upd H p1 (.lst [])) tp (.tup [.ref t0, .ref p1])) := Same.new n2
    have s3 : Same (upd (upd H p1 (.lst [])) tp (.tup [.ref t0, .ref p1])) (upd (upd (upd H p1 (.lst [])) tp (.tup [.ref t0, .ref p1])) op (.lst [.ref tp])) := Same.new n3
    have n3' : H op = none := s1.free (s2.free n3)
    have hpo : p1 ≠ op := ne_of_none (s2 _ _ upd_same) n3
    refine ⟨PInv cl H (.ref t0) op root, ⟨mu [⟨root, [], p1⟩], [.ref tp], [⟨root, [], p1⟩], .non, none, none, none, rfl, upd_same, n3', s1.trans (s2.trans s3), rfl, .inr ⟨.one ⟨⟨tp, t0, [], rfl, s3 _ _ upd_same, ?_, s3 _ _ (s2 _ _ upd_same), .nil⟩, n1, rfl, hz, hd, hok⟩ rfl, ?_⟩⟩, ?_⟩
    · exact ht.mono (T := cl.has) (Same.imm (s1.trans (s2.trans s3)))
    · intro f hf
      rw [List.mem_singleton.mp hf]
      exact hpo
    rintro m σ H1 ⟨vs, fr, x, o1, o2, o3, rfl, hop, nop, sm, rfl, hst⟩
    refine ⟨_, rfl, Nat.zero_le _, fun q nq => ⟨op, q, vs, rfl, rfl, SqL.of (Same.new nq _ _ hop), SqL.of upd_same, _, rfl, ?_⟩⟩
    rcases hst with ⟨rfl, rfl, a, rfl, hp⟩ | ⟨hst, hno⟩
    · refine iteF ?_
      walk_at "rd"
      exact k _ _ (sm.trans (Same.new nq)) (hp.mono (Imm.new nq))
    · have hvs : vs.isEmpty = false := by
        have := hst.ne.2
        cases vs with
        | nil => exact absurd rfl this
        | cons => rfl
      rw [hvs]
      refine iteT ⟨fun σ' H' => ∃ m', m' < mu fr ∧ PInv cl H (.ref t0) op root m' σ' H', fun σ' H' h => h, ?_⟩
      -- the top of the stack
      obtain ⟨ws0, v, f, r, evs, efr, hf⟩ : ∃ ws0 v f r, vs = ws0 ++ [v] ∧ fr = f :: r ∧ Fr1 cl H H1 v f := by
        cases hst with
        | one h hr => exact ⟨[], _, _, _, rfl, rfl, h⟩
        | push s h hk ne => exact ⟨_, _, _, _, rfl, rfl, h⟩
      obtain ⟨⟨tp, t, ws, rfl, h1, h2, h3, h4⟩, fnew, fpre, fsz, fdp, fok⟩ := hf
      have sq : Same H1 (upd H1 q (.lst [])) := Same.new nq
      obtain ⟨rest, hsh, hki⟩ := h2.shape
      refine ⟨_, rfl, 1, rfl, op, vs, -1, .ref tp, rfl, rfl, SqL.of (sq _ _ hop), by rw [evs]; exact atI_last _ _, ?_⟩
      refine ⟨tp, _, rfl, SqT.of (sq _ _ h1), rfl, _, _, rfl, ?_⟩
      walk_at "rd"
      refine ⟨t, _, 0, .str (kindS f.c), rfl, rfl, SqT.of (sq _ _ hsh), atI_int (by decide) rfl, line_ge (by simp), fun q2 nq2 => ⟨q2, _, rfl, .inr (SqT.of upd_same), rfl, rfl, ?_⟩⟩
      have e1 : (V.bl (if false = true then !inV (.str (kindS f.c)) [.str "fixed", .str "contact"] else inV (.str (kindS f.c)) [.str "fixed", .str "contact"])) = .bl f.c.single := by
        rw [if_neg Bool.false_ne_true, single_in]
      rw [e1]
      have sq2 : Same H1 (upd (upd H1 q (.lst [])) q2 (.tup [.str "fixed", .str "contact"])) := sq.trans (Same.new nq2)
      generalize (upd (upd H1 q (.lst [])) q2 (.tup [.str "fixed", .str "contact"])) = H2 at sq2 ⊢
      clear e1
      have hn2 : H2 f.pl = some (.lst ws) := sq2 _ _ h3
      have hp2 := h4.length
      have hds : f.ds.length ≤ f.c.kids.length := by
        have := congrArg List.length fpre
        rw [List.length_take] at this
        omega
      refine ⟨fun σ' H' => σ' = [some (.ref t0), some (.ref op), some x, some (.ref t), some (.ref f.pl), some (.bl f.c.single)] ∧ Same H1 H' ∧ f.ds.length = f.c.kids.length, ?_, ?_⟩
      · walk_at "rd"
        cases hsg : f.c.single with
        | true =>
          refine iteF ⟨sq2, ?_⟩
          have e := single_kids hsg
          rw [e] at hds ⊢
          simp at hds
          rw [hds]
        | false =>
          have hki' := hki hsg
          have hrl := hki'.length
          refine iteT ⟨ws, .inl (SqL.of hn2), _, .inr (SqT.of (sq2 _ _ hsh)), ?_⟩
          by_cases hlt : f.ds.length < f.c.kids.length
          · rw [decide_eq_true (show ((ws.length : Nat) : Int) < (((V.str (kindS f.c) :: rest).length : Nat) : Int) - 1 by rw [List.length_cons]; omega)]
            refine iteT ?_
            -- the next part is opened
            obtain ⟨c', hc'⟩ : ∃ c', f.c.kids[f.ds.length]? = some c' := ⟨_, List.getElem?_eq_getElem hlt⟩
            obtain ⟨v', hv'⟩ : ∃ v', rest[f.ds.length]? = some v' := ⟨_, List.getElem?_eq_getElem (by omega)⟩
            obtain ⟨c2, hc2, ht'⟩ := hki'.at hv'
            rw [hc'] at hc2
            cases hc2
            obtain ⟨t', x', rfl, ht2⟩ := ht'.ref
            refine ⟨_, rfl, .inl ⟨rfl, _, SqL.of (sq2 _ _ hop)⟩, ?_⟩
            walk_at "rd"
            refine ⟨ws, .inl (SqL.of hn2), t, _, _, .ref t', rfl, rfl, SqT.of (sq2 _ _ hsh), atI_int (by omega) ?_, line_ge (by simp), fun pl' npl' => ⟨line_ge (by simp), fun tp' ntp' => ?_⟩⟩
            · have e : ((1 : Int) + (ws.length : Nat)).toNat = f.ds.length + 1 := by omega
              rw [e, List.getElem?_cons_succ]
              exact hv'
            have sA : Same H1 (upd (upd H2 pl' (.lst [])) tp' (.tup [.ref t', .ref pl'])) := (sq2.trans (Same.new npl')).trans (Same.new ntp')
            have nplH : H1 pl' = none := sq2.free npl'
            refine ⟨op, vs, _, rfl, rfl, sA _ _ hop, ?_, ?_⟩
            · have h1 := hst.len
              have h2 := hst.deep efr
              have h3 := f.c.depth_pos
              rw [efr, List.length_cons] at h1
              exact small1000 (by omega)
            have hplo : pl' ≠ op := (ne_of_none hop nplH).symm
            have hplr : ∀ e ∈ fr, e.pl ≠ pl' := by
              intro e he q
              have h := Stk.lists hst e he
              obtain ⟨ws', hw⟩ := h
              rw [q, nplH] at hw
              cases hw
            have kp : Imm cl.has H1 (upd (upd (upd H2 pl' (.lst [])) tp' (.tup [.ref t', .ref pl'])) op (.lst (vs ++ [.ref tp']))) := (Same.imm sA).trans (Imm.mut (sA _ _ hop) id)
            have kl : ∀ g ∈ fr, ∀ ws, H1 g.pl = some (.lst ws) → upd (upd (upd H2 pl' (.lst [])) tp' (.tup [.ref t', .ref pl'])) op (.lst (vs ++ [.ref tp'])) g.pl = some (.lst ws) := by
              intro g hg ws hw
              rw [upd_ne (hno g hg)]
              exact sA _ _ hw
            have hck : c' ∈ f.c.kids := List.mem_of_getElem? hc'
            have z1 := Cond.size_mem hck
            have z2 := Cond.depth_mem hck
            have z3 := f.c.size_kids
            have z4 := f.c.depth_kids
            have hnew : Fr1 cl H (upd (upd (upd H2 pl' (.lst [])) tp' (.tup [.ref t', .ref pl'])) op (.lst (vs ++ [.ref tp']))) (.ref tp') ⟨c', [], pl'⟩ := by
              have ntpo : tp' ≠ op := (ne_of_none ((sq2.trans (Same.new npl')) _ _ hop) ntp').symm
              refine ⟨⟨tp', t', [], rfl, ?_, ?_, ?_, .nil⟩, sm.free nplH, rfl, (show c'.size ≤ 60 by omega), (show c'.depth ≤ 20 by omega), Cond.oks_mem (Cond.ok_kids fok) hck⟩
              · rw [upd_ne ntpo, upd_same]
              · exact ht'.mono kp
              · rw [upd_ne hplo]
                exact Same.new ntp' _ _ upd_same
            rw [efr] at hst kl hplr hno ⊢
            refine ⟨_, mu_push (f := ⟨c', [], pl'⟩) hc' rfl, vs ++ [.ref tp'], _, x, _, _, _, rfl, upd_same, nop, Same.mut (sm.trans sA) nop, rfl, .inr ⟨.push (hst.keep kp kl) hnew hc' hplr, fun g hg => ?_⟩⟩
            rcases List.mem_cons.mp hg with rfl | hg
            · exact hplo
            · exact hno g hg
          · rw [decide_eq_false (show ¬ ((ws.length : Nat) : Int) < (((V.str (kindS f.c) :: rest).length : Nat) : Int) - 1 by rw [List.length_cons]; omega)]
            exact iteF ⟨sq2, by omega⟩
      rintro σ' H3 ⟨rfl, s3', hfull⟩
      have hop3 := s3' _ _ hop
      have hkids : f.ds = f.c.kids := by rw [fpre, hfull, List.take_of_length_le (Nat.le_refl _)]
      refine ⟨fun σ' H' => σ' = [some (.ref t0), some (.ref op), some x, some (.ref t), some (.ref f.pl), some (.bl f.c.single)] ∧ H' = upd H3 op (.lst ws0), ?_, ?_⟩
      · refine ⟨_, rfl, .inl ⟨rfl, _, SqL.of hop3⟩, op, vs, .ref tp, rfl, rfl, hop3, ?_, rfl, ?_⟩
        · rw [evs]
          simp
        · rw [evs, List.dropLast_concat]
      rintro σ' H4 ⟨rfl, e4⟩
      have i4 : Imm cl.has H3 H4 := by
        rw [e4]
        exact Imm.mut hop3 id
      have l4 : ∀ g ∈ fr, ∀ ws, H3 g.pl = some (.lst ws) → H4 g.pl = some (.lst ws) := by
        intro g hg ws hw
        rw [e4, upd_ne (hno g hg)]
        exact hw
      have i14 : Imm cl.has H1 H4 := (Same.imm s3').trans i4
      have o4 : H4 op = some (.lst ws0) := by
        rw [e4, upd_same]
      have sm4 : Same H H4 := by
        rw [e4]
        exact Same.mut (sm.trans s3') nop
      have st4 : Stk cl H H4 root vs fr := (hst.keep (Same.imm s3') (fun g hg ws hw => s3' _ _ hw)).keep i4 l4
      clear e4
      refine ⟨fun σ' H' => ∃ y, σ' = [some (.ref t0), some (.ref op), some (.ref y), some (.ref t), some (.ref f.pl), some (.bl f.c.single)] ∧ Same H4 H' ∧ IsP cl H' (.ref y) f.c, ?_, ?_⟩
      · have h24 := h2.mono i14
        refine ⟨_, rfl, _, rfl, ?_⟩
        cases hsg : f.c.single with
        | true => exact iteT ⟨_, rfl, .ref t, f.c, rfl, h24, hsg, fok, fun H5 y s5 p5 => ⟨y, rfl, s5, p5⟩⟩
        | false =>
          refine iteF ⟨_, rfl, t, _, 0, .str (kindS f.c), rfl, rfl, SqT.of (i14 _ _ hsh trivial), atI_int (by decide) rfl, _, rfl, f.pl, ws, f.c, rfl, ?_, hsg, fok, ?_, fsz, fdp, fun H5 y s5 p5 => ⟨y, rfl, s5, p5⟩⟩
          · exact l4 f (by rw [efr]; exact List.mem_cons_self) _ (s3' _ _ h3)
          · rw [← hkids]
            exact h4.mono i14
      rintro σ' H5 ⟨y, rfl, s5, p5⟩
      refine ⟨_, rfl, Nat.zero_le _, fun q3 nq3 => ⟨op, q3, ws0, rfl, rfl, SqL.of (Same.new nq3 _ _ (s5 _ _ o4)), SqL.of upd_same, _, rfl, ?_⟩⟩
      have s46 : Same H4 (upd H5 q3 (.lst [])) := s5.trans (Same.new nq3)
      have p6 : IsP cl (upd H5 q3 (.lst [])) (.ref y) f.c := p5.mono (Imm.new nq3)
      generalize upd H5 q3 (.lst []) = H6 at s46 p6 ⊢
      cases r with
      | nil =>
        have ews : ws0 = [] := by
          have h := hst.len
          rw [efr, evs] at h
          simpa using h
        subst ews
        refine iteF ⟨0, by rw [efr]; exact Nat.lt_of_lt_of_le Nat.zero_lt_one (Nat.le_add_right 1 _), [], [], .ref y, _, _, _, rfl, s46 _ _ o4, nop, sm4.trans s46, rfl, .inl ⟨rfl, rfl, y, rfl, ?_⟩⟩
        rw [efr] at hst
        cases hst with
        | one h hr => rw [← hr]; exact p6
      | cons g r =>
        rw [efr, evs] at st4
        obtain ⟨sg, hk, ne⟩ : Stk cl H H4 root ws0 (g :: r) ∧ g.c.kids[g.ds.length]? = some f.c ∧ ∀ e ∈ g :: r, e.pl ≠ f.pl := by
          generalize he : ws0 ++ [V.ref tp] = vv at st4
          cases st4 with
          | push s h hk ne =>
            have := List.append_inj_left' he rfl
            subst this
            exact ⟨s, hk, ne⟩
        have sg6 : Stk cl H H6 root ws0 (g :: r) := sg.keep (Same.imm s46) (fun e _ ws hw => s46 _ _ hw)
        obtain ⟨vs1, v1, ev1, hg1⟩ : ∃ vs1 v1, ws0 = vs1 ++ [v1] ∧ Fr1 cl H H6 v1 g := by
          cases sg6 with
          | one h hr => exact ⟨[], _, rfl, h⟩
          | push s h hk ne => exact ⟨_, _, rfl, h⟩
        obtain ⟨⟨tg, tt, wg, rfl, g1, g2, g3, g4⟩, gnew, gpre, gsz, gdp, gok⟩ := hg1
        have hne : ws0.isEmpty = false := by rw [ev1]; simp
        rw [hne]
        have o6 := s46 _ _ o4
        refine iteT ⟨_, rfl, 1, rfl, op, ws0, -1, .ref tg, rfl, rfl, SqL.of o6, by rw [ev1]; exact atI_last _ _, tg, _, 1, .ref g.pl, rfl, rfl, SqT.of g1, rfl, .inl ⟨rfl, _, SqL.of g3⟩, ?_⟩
        have hwl := g4.length
        have hgl : g.ds.length < g.c.kids.length := (List.getElem?_eq_some_iff.mp hk).1
        have hz3 := Cond.len_sizes g.c.kids
        have hz4 := g.c.size_kids
        refine ⟨_, rfl, g.pl, wg, .ref y, rfl, rfl, g3, small1000 (by omega), ?_⟩
        have ngo : g.pl ≠ op := hno g (by rw [efr]; exact List.mem_cons_of_mem _ List.mem_cons_self)
        refine ⟨mu (⟨g.c, g.ds ++ [f.c], g.pl⟩ :: r), ?_, ws0, ⟨g.c, g.ds ++ [f.c], g.pl⟩ :: r, .ref y, _, _, _, rfl, ?_, nop, Same.mut (sm4.trans s46) gnew, rfl, .inr ⟨?_, ?_⟩⟩
        · rw [efr]
          exact mu_pop rfl (by simp)
        · rw [upd_ne ngo.symm]
          exact o6
        · have i7 : Imm cl.has H6 (upd H6 g.pl (.lst (wg ++ [.ref y]))) := Imm.mut g3 id
          have hfr : Fr1 cl H (upd H6 g.pl (.lst (wg ++ [.ref y]))) (.ref tg) ⟨g.c, g.ds ++ [f.c], g.pl⟩ := by
            refine ⟨⟨tg, tt, wg ++ [.ref y], rfl, i7 _ _ g1 trivial, g2.mono i7, upd_same, (g4.mono i7).snoc (p6.mono i7)⟩, gnew, ?_, gsz, gdp, gok⟩
            show g.ds ++ [f.c] = g.c.kids.take (g.ds ++ [f.c]).length
            rw [List.length_append, List.length_singleton, List.take_succ, hk, ← gpre]
            rfl
          exact sg6.swap i7 (fun e he => by
            intro ws hw
            rw [upd_ne he]
            exact hw) ev1 hfr rfl rfl
        · intro e he
          rcases List.mem_cons.mp he with rfl | he
          · exact ngo
          · exact hno e (by rw [efr]; exact List.mem_cons_of_mem _ (List.mem_cons_of_mem _ he))
end

--%% N4
/-! ## holds -/
abbrev s_Fixed_holds : Stmt := inClass (top 39) 1
theorem sc_Fixed_holds : FnScope ["self", "image"] ["self", "image"] (defScope s_Fixed_holds) := ⟨rfl, rfl, rfl, by decide +kernel, rfl, by decide +kernel, by decide +kernel⟩
abbrev s_Contact_holds : Stmt := inClass (top 40) 1
theorem sc_Contact_holds : FnScope ["self", "image"] ["self", "image"] (defScope s_Contact_holds) := ⟨rfl, rfl, rfl, by decide +kernel, rfl, by decide +kernel, by decide +kernel⟩
abbrev s_Turned_holds : Stmt := inClass (top 41) 2
theorem sc_Turned_holds : FnScope ["self", "image"] ["self", "image"] (defScope s_Turned_holds) := ⟨rfl, rfl, rfl, by decide +kernel, rfl, by decide +kernel, by decide +kernel⟩
abbrev s_Series_holds : Stmt := inClass (top 43) 0
theorem sc_Series_holds : FnScope ["self", "image", "part"] ["self", "image"] (defScope s_Series_holds) := ⟨rfl, rfl, rfl, by decide +kernel, rfl, by decide +kernel, by decide +kernel⟩
abbrev s_Branch_holds : Stmt := inClass (top 44) 0
theorem sc_Branch_holds : FnScope ["self", "image", "part"] ["self", "image"] (defScope s_Branch_holds) := ⟨rfl, rfl, rfl, by decide +kernel, rfl, by decide +kernel, by decide +kernel⟩
structure THolds (K : PySem.W.Frag) (mg : Str → Option Value) (cl : Cl) : Prop where
  parts : TParts K mg cl
  m_holds_fx : MethAt K cl.fx "holds" "Fixed.holds" s_Fixed_holds ["self", "image"]
  m_holds_ct : MethAt K cl.ct "holds" "Contact.holds" s_Contact_holds ["self", "image"]
  m_holds_tn : MethAt K cl.tn "holds" "Turned.holds" s_Turned_holds ["self", "image"]
  m_holds_sr : MethAt K cl.sr "holds" "Series.holds" s_Series_holds ["self", "image"]
  m_holds_br : MethAt K cl.br "holds" "Branch.holds" s_Branch_holds ["self", "image"]
  z_all : mg "all" = none
  z_any : mg "any" = none
/-- an image as a dict: each key once, its value a truth -/
def GoodD (kvs : List (Key × V)) : Prop := (∀ p ∈ kvs, valV kvs p.1 = some p.2 ∧ ∃ b, p.2 = .bl b) ∧ kvs.length ≤ 100
/-- the truth of a name: of one that is not in it, False -/
def imF (kvs : List (Key × V)) : Im := fun n => match valV kvs (Sum.inr n : Key) with
  | some (.bl b) => b
  | _ => false
theorem GoodD.at {kvs : List (Key × V)} (g : GoodD kvs) (n : Str) : (valV kvs (Sum.inr n : Key) = none ∧ imF kvs n = false) ∨ valV kvs (Sum.inr n : Key) = some (.bl (imF kvs n)) := by
  unfold imF
  cases h : valV kvs (Sum.inr n : Key) with
  | none => exact .inl ⟨rfl, rfl⟩
  | some v =>
    unfold valV at h
    obtain ⟨p, hp, rfl⟩ := Option.map_eq_some_iff.mp h
    obtain ⟨b, e⟩ := (g.1 p (List.mem_of_find?_eq_some hp)).2
    rw [e]
    exact .inr rfl
section
variable {P : Program} {w : World} {K : PySem.W.Frag} {mg : Str → Option Value} {base : Heap} {cl : Cl}
def spHolds (cl : Cl) (n : Nat) (C : Addr) : Sp := fun vs H Q _ => ∃ (a dx d : Addr) (fs : List (Str × V)) (c : Cond) (kvs : List (Key × V)), vs = [.ref a, .ref d] ∧ H a = some (.ins C dx fs) ∧ IsP cl H (.ref a) c ∧ H d = some (.dK kvs) ∧ GoodD kvs ∧ c.depth ≤ n ∧ c.size ≤ 1000 ∧
  ∀ H' : Hp, Same H H' → Q (.bl (c.holds (imF kvs))) H'
theorem ok_holds_fx (T : THolds K mg cl) (n : Nat) : ∃ f fd, Cls K cl.fx ∧ Meth K cl.fx "holds" f ∧ Binds K fd ["self", "image"] [] ∧ FnOk P w K mg base CX0 1 f fd ["self", "image"] (spHolds cl n cl.fx) := by
  refine methAt_ok T.parts.c_Fixed.cl T.m_holds_fx sc_Fixed_holds (fun vs H Q E h => ?_) (fun f cdv A outer s H vs Q E hr h => ?_)
  · obtain ⟨a, dx, d, fs, c, kvs, rfl, _⟩ := h; rfl
  · obtain ⟨a, dx, d, fs, c, kvs, rfl, ha, p, hD, hg, hd, hz, q⟩ := h
    obtain ⟨b, rfl, rfl⟩ := inv_fx T.parts.nd ha p
    refine ⟨_, (pss_one (ps_ret (pe_fld (pv 0) rfl))), ?_⟩
    exact ⟨_, rfl, a, _, dx, _, _, rfl, ha, T.parts.c_Fixed.cl, T.parts.nv_fx, lk1s, q _ (Same.refl _)⟩
theorem ok_holds_ct (T : THolds K mg cl) (n : Nat) : ∃ f fd, Cls K cl.ct ∧ Meth K cl.ct "holds" f ∧ Binds K fd ["self", "image"] [] ∧ FnOk P w K mg base CX0 1 f fd ["self", "image"] (spHolds cl n cl.ct) := by
  refine methAt_ok T.parts.c_Contact.cl T.m_holds_ct sc_Contact_holds (fun vs H Q E h => ?_) (fun f cdv A outer s H vs Q E hr h => ?_)
  · obtain ⟨a, dx, d, fs, c, kvs, rfl, _⟩ := h; rfl
  · obtain ⟨a, dx, d, fs, c, kvs, rfl, ha, p, hD, hg, hd, hz, q⟩ := h
    obtain ⟨m, rfl, rfl⟩ := inv_ct T.parts.nd ha p
    have hu := hu_of hr
    refine ⟨_, (pss_one (ps_ret (pe_dget2 hu (pv 1) (pe_fld (pv 0) rfl) pe_bl (by constructor <;> rfl)))), ?_⟩
    refine ⟨_, rfl, d, rfl, .inl ⟨kvs, .inl hD⟩, _, rfl, a, _, dx, _, _, rfl, ha, T.parts.c_Contact.cl, T.parts.nn_ct, lk1s, valV kvs (Sum.inr m : Key), .inl ⟨kvs, Sum.inr m, .inl hD, rfl, rfl⟩, ?_⟩
    have e : (valV kvs (Sum.inr m : Key)).getD (V.bl false) = .bl (imF kvs m) := by
      rcases hg.at m with ⟨h1, h2⟩ | h1
      · rw [h1, h2]
        rfl
      · rw [h1]
        rfl
    rw [e]
    exact q _ (Same.refl _)
theorem ok_holds_tn (T : THolds K mg cl) {n k : Nat} (G_holds : DispAt P w K mg base CX0 cl.has "holds" k ["self", "image"] (spHolds cl n)) :
    ∃ f fd, Cls K cl.tn ∧ Meth K cl.tn "holds" f ∧ Binds K fd ["self", "image"] [] ∧ FnOk P w K mg base CX0 (k + 1) f fd ["self", "image"] (spHolds cl (n + 1) cl.tn) := by
  refine methAt_ok T.parts.c_Turned.cl T.m_holds_tn sc_Turned_holds (fun vs H Q E h => ?_) (fun f cdv A outer s H vs Q E hr h => ?_)
  · obtain ⟨a, dx, d, fs, c, kvs, rfl, _⟩ := h; rfl
  · obtain ⟨a, dx, d, fs, c, kvs, rfl, ha, p, hD, hg, hd, hz, q⟩ := h
    obtain ⟨v, c', rfl, rfl, p'⟩ := inv_tn T.parts.nd ha p
    rw [Cond.depth] at hd
    rw [Cond.size] at hz
    refine ⟨_, (pss_one (ps_ret (pe_not (pe_methD G_holds hr pass0 (pe_fld (pv 0) rfl) (pa_cons (pv 1) pa_nil) (Nat.le_refl _))))), ?_⟩
    obtain ⟨a', C', dx', fs', rfl, ha', hC', hl'⟩ := meth_of (m := "holds") (by decide +kernel) p'
    refine ⟨_, rfl, a, _, dx, _, _, rfl, ha, T.parts.c_Turned.cl, T.parts.np_tn, lk1s, a', C', dx', fs', rfl, ha', hC', hl', _, rfl, a', dx', d, fs', c', kvs, rfl, ha', p', hD, hg, by omega, by omega, fun H1 s1 => ?_⟩
    exact ⟨_, rfl, q _ s1⟩
theorem all_take (f : Im) (cs : List Cond) : (cs.map (Cond.holds f)).all id = Cond.alls f cs := (Cond.alls_map f cs).symm
theorem ok_holds_sr (T : THolds K mg cl) {n k : Nat} (G_holds : DispAt P w K mg base CX0 cl.has "holds" k ["self", "image"] (spHolds cl n)) :
    ∃ f fd, Cls K cl.sr ∧ Meth K cl.sr "holds" f ∧ Binds K fd ["self", "image"] [] ∧ FnOk P w K mg base CX0 (k + 1) f fd ["self", "image"] (spHolds cl (n + 1) cl.sr) := by
  refine methAt_ok T.parts.c_Series.cl T.m_holds_sr sc_Series_holds (fun vs H Q E h => ?_) (fun f cdv A outer st H vs Q E hr h => ?_)
  · obtain ⟨a, dx, d, fs, c, kvs, rfl, _⟩ := h; rfl
  · obtain ⟨a, dx, d, fs, c, kvs, rfl, ha, p, hD, hg, hd, hz, q⟩ := h
    obtain ⟨t, ws, cs, rfl, rfl, ht, ps⟩ := inv_gr (s := true) T.parts.nd rfl ha p
    rw [Cond.depth] at hd
    rw [Cond.size] at hz
    have hlen := ps.length
    have hz2 := Cond.len_sizes cs
    refine ⟨_, (pss_one (ps_ret (pe_callB (cr_all rfl) (by rfl) T.z_all (by decide +kernel) (pa_cons (pe_lc (own := [("part", 2)]) (g := gName 2) (tt := tYes) rfl sc_Series_holds.nd (pi_tup (pe_fld (pv 0) rfl)) (blkOk_by (own := [("part", 2)]) (N := ["self", "image", "part"]) (sc := defScope s_Series_holds) (by decide +kernel)) (fun _ _ _ _ _ => pg_name (i := 2) sc_Series_holds.nd rfl (Or.inl rfl)) (fun _ _ _ _ _ => pts_nil) (fun _ _ _ _ _ => (pe_methD G_holds hr pass0 (pv 2) (pa_cons (pv 1) pa_nil) (Nat.le_refl _)))) pa_nil)))), ?_⟩
    refine ⟨_, rfl, a, _, dx, _, _, rfl, ha, T.parts.c_Series.cl, T.parts.np_sr, lk1s, t, rfl, ⟨_, SqT.of ht⟩, fun D nD => lc_tup (K := K) (a := t) (xs := ws) (fun i H' => Same H H' ∧ H' D = some (.lst ((cs.map fun c => V.bl (c.holds (imF kvs))).take i)))
      ⟨Same.new nD, upd_same⟩ (fun i H' _ q => SqT.of (q.1 _ _ ht)) ?_ ?_⟩
    · rintro i y H2 hy ⟨q1, q2⟩
      obtain ⟨c', hc', p'⟩ := (ps.mono (Same.imm q1)).at hy
      obtain ⟨a', C', dx', fs', rfl, ha', hC', hl'⟩ := meth_of (m := "holds") (by decide +kernel) p'
      have hm := List.mem_of_getElem? hc'
      have h1 := Cond.depth_mem hm
      have h2 := Cond.size_mem hm
      refine ⟨rfl, _, rfl, a', C', dx', fs', rfl, ha', hC', hl', _, rfl, a', dx', d, fs', c', kvs, rfl, ha', p', q1 _ _ hD, hg, by omega, by omega, fun H3 s3 => ?_⟩
      exact lc_push (q1.trans s3) nD (s3 _ _ q2) (by rw [List.getElem?_map, hc']; rfl) (by rw [List.length_map]; omega)
    · rintro H2 ⟨q1, q2⟩
      rw [hlen, List.take_of_length_le (by simp)] at q2
      refine ⟨D, cs.map (Cond.holds (imF kvs)), rfl, SqL.of ?_, ?_⟩
      · rw [q2, List.map_map]
        rfl
      · have e : (Cond.grp true cs).holds (imF kvs) = (cs.map (Cond.holds (imF kvs))).all id := by rw [Cond.holds, Cond.alls_map]
        rw [← e]
        exact q _ q1
theorem ok_holds_br (T : THolds K mg cl) {n k : Nat} (G_holds : DispAt P w K mg base CX0 cl.has "holds" k ["self", "image"] (spHolds cl n)) :
    ∃ f fd, Cls K cl.br ∧ Meth K cl.br "holds" f ∧ Binds K fd ["self", "image"] [] ∧ FnOk P w K mg base CX0 (k + 1) f fd ["self", "image"] (spHolds cl (n + 1) cl.br) := by
  refine methAt_ok T.parts.c_Branch.cl T.m_holds_br sc_Branch_holds (fun vs H Q E h => ?_) (fun f cdv A outer st H vs Q E hr h => ?_)
  · obtain ⟨a, dx, d, fs, c, kvs, rfl, _⟩ := h; rfl
  · obtain ⟨a, dx, d, fs, c, kvs, rfl, ha, p, hD, hg, hd, hz, q⟩ := h
    obtain ⟨t, ws, cs, rfl, rfl, ht, ps⟩ := inv_gr (s := false) T.parts.nd rfl ha p
    rw [Cond.depth] at hd
    rw [Cond.size] at hz
    have hlen := ps.length
    have hz2 := Cond.len_sizes cs
    refine ⟨_, (pss_one (ps_ret (pe_callB (cr_any rfl) (by rfl) T.z_any (by decide +kernel) (pa_cons (pe_lc (own := [("part", 2)]) (g := gName 2) (tt := tYes) rfl sc_Branch_holds.nd (pi_tup (pe_fld (pv 0) rfl)) (blkOk_by (own := [("part", 2)]) (N := ["self", "image", "part"]) (sc := defScope s_Branch_holds) (by decide +kernel)) (fun _ _ _ _ _ => pg_name (i := 2) sc_Branch_holds.nd rfl (Or.inl rfl)) (fun _ _ _ _ _ => pts_nil) (fun _ _ _ _ _ => (pe_methD G_holds hr pass0 (pv 2) (pa_cons (pv 1) pa_nil) (Nat.le_refl _)))) pa_nil)))), ?_⟩
    refine ⟨_, rfl, a, _, dx, _, _, rfl, ha, T.parts.c_Branch.cl, T.parts.np_br, lk1s, t, rfl, ⟨_, SqT.of ht⟩, fun D nD => lc_tup (K := K) (a := t) (xs := ws) (fun i H' => Same H H' ∧ H' D = some (.lst ((cs.map fun c => V.bl (c.holds (imF kvs))).take i)))
      ⟨Same.new nD, upd_same⟩ (fun i H' _ q => SqT.of (q.1 _ _ ht)) ?_ ?_⟩
    · rintro i y H2 hy ⟨q1, q2⟩
      obtain ⟨c', hc', p'⟩ := (ps.mono (Same.imm q1)).at hy
      obtain ⟨a', C', dx', fs', rfl, ha', hC', hl'⟩ := meth_of (m := "holds") (by decide +kernel) p'
      have hm := List.mem_of_getElem? hc'
      have h1 := Cond.depth_mem hm
      have h2 := Cond.size_mem hm
      refine ⟨rfl, _, rfl, a', C', dx', fs', rfl, ha', hC', hl', _, rfl, a', dx', d, fs', c', kvs, rfl, ha', p', q1 _ _ hD, hg, by omega, by omega, fun H3 s3 => ?_⟩
      exact lc_push (q1.trans s3) nD (s3 _ _ q2) (by rw [List.getElem?_map, hc']; rfl) (by rw [List.length_map]; omega)
    · rintro H2 ⟨q1, q2⟩
      rw [hlen, List.take_of_length_le (by simp)] at q2
      refine ⟨D, cs.map (Cond.holds (imF kvs)), rfl, SqL.of ?_, ?_⟩
      · rw [q2, List.map_map]
        rfl
      · have e : (Cond.grp false cs).holds (imF kvs) = (cs.map (Cond.holds (imF kvs))).any id := by rw [Cond.holds, Cond.anys_map]
        rw [← e]
        exact q _ q1
theorem disp_holds (T : THolds K mg cl) : ∀ n : Nat, DispAt P w K mg base CX0 cl.has "holds" (n + 1) ["self", "image"] (spHolds cl n)
  | 0 => by
    refine ⟨fun C hC => ?_⟩
    have vac : ∀ C vs H Q E, spHolds cl 0 C vs H Q E → False := by
      rintro C vs H Q E ⟨a, dx, d, fs, c, kvs, rfl, ha, p, _, _, hd, _⟩
      exact absurd c.depth_pos (by omega)
    rcases hC with rfl | rfl | rfl | rfl | rfl
    · exact ok_holds_fx T 0
    · exact ok_holds_ct T 0
    all_goals
      refine methAt_ok (T.parts.cls (by simp [Cl.has])) (by first | exact T.m_holds_tn | exact T.m_holds_sr | exact T.m_holds_br) (by first | exact sc_Turned_holds | exact sc_Series_holds | exact sc_Branch_holds) (fun vs H Q E h => (vac _ _ _ _ _ h).elim) (fun f cdv A outer s H vs Q E hr h => (vac _ _ _ _ _ h).elim)
  | n + 1 => by
    have ih := disp_holds T n
    refine ⟨fun C hC => ?_⟩
    rcases hC with rfl | rfl | rfl | rfl | rfl
    · obtain ⟨f, fd, h1, h2, h3, h4⟩ := ok_holds_fx (P := P) (w := w) (base := base) T (n + 1)
      exact ⟨f, fd, h1, h2, h3, h4.mono (by omega)⟩
    · obtain ⟨f, fd, h1, h2, h3, h4⟩ := ok_holds_ct (P := P) (w := w) (base := base) T (n + 1)
      exact ⟨f, fd, h1, h2, h3, h4.mono (by omega)⟩
    · exact ok_holds_tn T ih
    · exact ok_holds_sr T ih
    · exact ok_holds_br T ih
end

--%% N5
/-! ## the classes of errors -/
structure Xc where
  err : Addr
  name : Addr
  part : Addr
  end_ : Addr
  ladder : Addr
  text : Addr
  row : Addr
  sheet : Addr
  state : Addr
  match_ : Addr
  many : Addr

inductive Xk where
  | name
  | part
  | end_
  | ladder
  | row
deriving DecidableEq
def Xc.at (xc : Xc) : Xk → Addr
  | .name => xc.name
  | .part => xc.part
  | .end_ => xc.end_
  | .ladder => xc.ladder
  | .row => xc.row
def Xk.str : Xk → Str
  | .name => "name"
  | .part => "part"
  | .end_ => "end"
  | .ladder => "ladder"
  | .row => "row"
structure TExs (K : PySem.W.Frag) (mg : Str → Option Value) (xc : Xc) : Prop where
  e_err : ErrAt K mg "LadderError" xc.err
  e_name : ExcAt K mg "NoName" xc.name xc.err
  e_part : ExcAt K mg "NoPart" xc.part xc.err
  e_end : ExcAt K mg "NoEnd" xc.end_ xc.err
  e_ladder : ExcAt K mg "NoLadder" xc.ladder xc.err
  e_row : ExcAt K mg "NoRow" xc.row xc.err
  ndx : [xc.err, xc.name, xc.part, xc.end_, xc.ladder, xc.row].Nodup
section
variable {K : PySem.W.Frag} {mg : Str → Option Value} {xc : Xc}
theorem TExs.of (T : TExs K mg xc) (b : Xk) : ∃ x, ExcAt K mg x (xc.at b) xc.err := by
  cases b
  · exact ⟨_, T.e_name⟩
  · exact ⟨_, T.e_part⟩
  · exact ⟨_, T.e_end⟩
  · exact ⟨_, T.e_ladder⟩
  · exact ⟨_, T.e_row⟩
theorem TExs.err (T : TExs K mg xc) (b : Xk) : xc.at b ≠ xc.err := by
  have nd := T.ndx
  simp only [List.nodup_cons, List.mem_cons, List.not_mem_nil, or_false, not_or] at nd
  intro e
  cases b <;> simp only [Xc.at] at e <;> simp_all
theorem TExs.inj (T : TExs K mg xc) (a b : Xk) (h : xc.at a = xc.at b) : a = b := by
  have nd := T.ndx
  simp only [List.nodup_cons, List.mem_cons, List.not_mem_nil, or_false, not_or] at nd
  cases a <;> cases b <;> first | rfl | (exfalso; simp only [Xc.at] at h; simp_all)
theorem TExs.kit (T : TExs K mg xc) (a b : Xk) : PySem.W.kitOne K (.ref (xc.at a)) (.ref (xc.at b)) = some (decide (a = b)) := by
  obtain ⟨x, h1⟩ := T.of a
  obtain ⟨y, h2⟩ := T.of b
  rw [h1.kit h2 ⟨T.err a, T.err b⟩]
  congr 1
  by_cases h : a = b
  · rw [decide_eq_true h, h, decide_eq_true rfl]
  · rw [decide_eq_false h, decide_eq_false fun e => h (T.inj a b e)]
end

/-! ## ends -/
abbrev s_End___init__ : Stmt := inClass (top 16) 0
theorem sc_End___init__ : FnScope ["self", "name"] ["self", "name"] (defScope s_End___init__) := ⟨rfl, rfl, rfl, by decide +kernel, rfl, by decide +kernel, by decide +kernel⟩
abbrev s_Counting___init__ : Stmt := inClass (top 20) 0
theorem sc_Counting___init__ : FnScope ["self", "name", "most"] ["self", "name", "most"] (defScope s_Counting___init__) := ⟨rfl, rfl, rfl, by decide +kernel, rfl, by decide +kernel, by decide +kernel⟩
abbrev s_End_ahead : Stmt := inClass (top 16) 1
theorem sc_End_ahead : FnScope ["self"] ["self"] (defScope s_End_ahead) := ⟨rfl, rfl, rfl, by decide +kernel, rfl, by decide +kernel, by decide +kernel⟩
abbrev s_Latch_ahead : Stmt := inClass (top 18) 0
theorem sc_Latch_ahead : FnScope ["self"] ["self"] (defScope s_Latch_ahead) := ⟨rfl, rfl, rfl, by decide +kernel, rfl, by decide +kernel, by decide +kernel⟩
abbrev s_Unlatch_ahead : Stmt := inClass (top 19) 0
theorem sc_Unlatch_ahead : FnScope ["self"] ["self"] (defScope s_Unlatch_ahead) := ⟨rfl, rfl, rfl, by decide +kernel, rfl, by decide +kernel, by decide +kernel⟩
abbrev s_Timer_ahead : Stmt := inClass (top 21) 0
theorem sc_Timer_ahead : FnScope ["self"] ["self"] (defScope s_Timer_ahead) := ⟨rfl, rfl, rfl, by decide +kernel, rfl, by decide +kernel, by decide +kernel⟩
abbrev s_Counter_ahead : Stmt := inClass (top 22) 0
theorem sc_Counter_ahead : FnScope ["self"] ["self"] (defScope s_Counter_ahead) := ⟨rfl, rfl, rfl, by decide +kernel, rfl, by decide +kernel, by decide +kernel⟩
abbrev s_End_behind : Stmt := inClass (top 16) 2
theorem sc_End_behind : FnScope ["self"] ["self"] (defScope s_End_behind) := ⟨rfl, rfl, rfl, by decide +kernel, rfl, by decide +kernel, by decide +kernel⟩
abbrev s_Counting_behind : Stmt := inClass (top 20) 1
theorem sc_Counting_behind : FnScope ["self"] ["self"] (defScope s_Counting_behind) := ⟨rfl, rfl, rfl, by decide +kernel, rfl, by decide +kernel, by decide +kernel⟩
abbrev s_End_text : Stmt := inClass (top 16) 3
theorem sc_End_text : FnScope ["self"] ["self"] (defScope s_End_text) := ⟨rfl, rfl, rfl, by decide +kernel, rfl, by decide +kernel, by decide +kernel⟩
inductive Ek where
  | coil | latch | unlatch | timer | counter
deriving DecidableEq
/-- the classes of ends -/
structure Ce where
  coil : Addr
  latch : Addr
  unlatch : Addr
  timer : Addr
  counter : Addr
  en : Addr
def Ce.at (ce : Ce) : Ek → Addr
  | .coil => ce.coil
  | .latch => ce.latch
  | .unlatch => ce.unlatch
  | .timer => ce.timer
  | .counter => ce.counter
def Ce.has (ce : Ce) (C : Addr) : Prop := ∃ k, C = ce.at k
def Ek.counts : Ek → Bool
  | .timer => true
  | .counter => true
  | _ => false
/-- an end: its kind, its name, its greatest count -/
structure EndC where
  k : Ek
  n : Str
  m : Int
def EndC.fs (e : EndC) : List (Str × V) := if e.k.counts then [("name", .str e.n), ("most", .int e.m)] else [("name", .str e.n)]
def IsE (ce : Ce) (H : Hp) (v : V) (e : EndC) : Prop := ∃ a dx, v = .ref a ∧ H a = some (.ins (ce.at e.k) dx e.fs)
theorem IsE.mono {ce : Ce} {H H' : Hp} {v : V} {e : EndC} (k : Imm ce.has H H') (p : IsE ce H v e) : IsE ce H' v e := by
  obtain ⟨a, dx, e1, h⟩ := p
  exact ⟨a, dx, e1, k _ _ h ⟨_, rfl⟩⟩
def Ek.ahead : Ek → Str
  | .coil => ""
  | .latch => "set "
  | .unlatch => "reset "
  | .timer => "timer "
  | .counter => "counter "
def EndC.behind (e : EndC) : Str := if e.k.counts then " " ++ (toString e.m : String) else ""
def EndC.text (e : EndC) : Str := e.k.ahead ++ e.n ++ e.behind
/-- as it may be -/
def EndC.ok (e : EndC) : Prop := isName e.n = true ∧ 1 ≤ e.m ∧ e.m ≤ 9
structure TEnds (K : PySem.W.Frag) (mg : Str → Option Value) (ce : Ce) : Prop where
  names : TNames K mg
  c_Coil : ClsAt K mg "Coil" ce.coil
  c_Latch : ClsAt K mg "Latch" ce.latch
  c_Unlatch : ClsAt K mg "Unlatch" ce.unlatch
  c_Timer : ClsAt K mg "Timer" ce.timer
  c_Counter : ClsAt K mg "Counter" ce.counter
  c_End : ClsAt K mg "End" ce.en
  nn_coil : NoAttr K ce.coil "name"
  nn_latch : NoAttr K ce.latch "name"
  nn_unlatch : NoAttr K ce.unlatch "name"
  nn_timer : NoAttr K ce.timer "name"
  nn_counter : NoAttr K ce.counter "name"
  nm_timer : NoAttr K ce.timer "most"
  nm_counter : NoAttr K ce.counter "most"
  m_ahead_coil : MethAt K ce.coil "ahead" "End.ahead" s_End_ahead ["self"]
  m_ahead_latch : MethAt K ce.latch "ahead" "Latch.ahead" s_Latch_ahead ["self"]
  m_ahead_unlatch : MethAt K ce.unlatch "ahead" "Unlatch.ahead" s_Unlatch_ahead ["self"]
  m_ahead_timer : MethAt K ce.timer "ahead" "Timer.ahead" s_Timer_ahead ["self"]
  m_ahead_counter : MethAt K ce.counter "ahead" "Counter.ahead" s_Counter_ahead ["self"]
  m_behind_coil : MethAt K ce.coil "behind" "End.behind" s_End_behind ["self"]
  m_behind_latch : MethAt K ce.latch "behind" "End.behind" s_End_behind ["self"]
  m_behind_unlatch : MethAt K ce.unlatch "behind" "End.behind" s_End_behind ["self"]
  m_behind_timer : MethAt K ce.timer "behind" "Counting.behind" s_Counting_behind ["self"]
  m_behind_counter : MethAt K ce.counter "behind" "Counting.behind" s_Counting_behind ["self"]
  m_text_coil : MethAt K ce.coil "text" "End.text" s_End_text ["self"]
  m_text_latch : MethAt K ce.latch "text" "End.text" s_End_text ["self"]
  m_text_unlatch : MethAt K ce.unlatch "text" "End.text" s_End_text ["self"]
  m_text_timer : MethAt K ce.timer "text" "End.text" s_End_text ["self"]
  m_text_counter : MethAt K ce.counter "text" "End.text" s_End_text ["self"]
  m_init_coil : MethAt K ce.coil "__init__" "End.__init__" s_End___init__ ["self", "name"]
  m_init_latch : MethAt K ce.latch "__init__" "End.__init__" s_End___init__ ["self", "name"]
  m_init_unlatch : MethAt K ce.unlatch "__init__" "End.__init__" s_End___init__ ["self", "name"]
  m_init_timer : MethAt K ce.timer "__init__" "Counting.__init__" s_Counting___init__ ["self", "name", "most"]
  m_init_counter : MethAt K ce.counter "__init__" "Counting.__init__" s_Counting___init__ ["self", "name", "most"]
  f_init : ClsFnAt K ce.en "__init__" "End.__init__" s_End___init__ ["self", "name"]
  nde : [ce.coil, ce.latch, ce.unlatch, ce.timer, ce.counter].Nodup
  z_isinstance : mg "isinstance" = none
  z_int : mg "int" = none
  z_bool : mg "bool" = none
  z_str : mg "str" = none
  g_MOST_COUNT : GlobC mg "MOST_COUNT" (.int 9)
section
variable {P : Program} {w : World} {K : PySem.W.Frag} {mg : Str → Option Value} {base : Heap} {ce : Ce} {xc : Xc}
theorem isName_len' {z : Str} (h : isName z = true) : z.length ≤ 8 := by
  unfold isName at h
  simp only [Bool.and_eq_true, decide_eq_true_eq] at h
  exact h.1.2
theorem TEnds.cls (T : TEnds K mg ce) : ∀ k : Ek, Cls K (ce.at k)
  | .coil => T.c_Coil.cl
  | .latch => T.c_Latch.cl
  | .unlatch => T.c_Unlatch.cl
  | .timer => T.c_Timer.cl
  | .counter => T.c_Counter.cl
theorem TEnds.nn (T : TEnds K mg ce) : ∀ k : Ek, NoAttr K (ce.at k) "name"
  | .coil => T.nn_coil
  | .latch => T.nn_latch
  | .unlatch => T.nn_unlatch
  | .timer => T.nn_timer
  | .counter => T.nn_counter
theorem TEnds.nm (T : TEnds K mg ce) : ∀ k : Ek, k.counts = true → NoAttr K (ce.at k) "most"
  | .timer, _ => T.nm_timer
  | .counter, _ => T.nm_counter
theorem TEnds.inj (T : TEnds K mg ce) (a b : Ek) (h : ce.at a = ce.at b) : a = b := by
  have nd := T.nde
  simp only [List.nodup_cons, List.mem_cons, List.not_mem_nil, or_false, not_or] at nd
  cases a <;> cases b <;> first | rfl | (exfalso; simp only [Ce.at] at h; simp_all)
theorem E_name (e : EndC) : List.lookup ("name" : Str) e.fs = some (.str e.n) := by
  unfold EndC.fs
  split <;> simp [List.lookup]
theorem E_most {e : EndC} (h : e.k.counts = true) : List.lookup ("most" : Str) e.fs = some (.int e.m) := by
  unfold EndC.fs
  rw [if_pos h]
  have e1 : (("most" : Str) == ("name" : Str)) = false := by decide +kernel
  simp [List.lookup, e1]
theorem E_no {m : Str} (e : EndC) (h1 : (m == ("name" : Str)) = false) (h2 : (m == ("most" : Str)) = false) : List.lookup m e.fs = none := by
  unfold EndC.fs
  split <;> simp [List.lookup, h1, h2]
theorem most_len {m : Int} (h1 : 1 ≤ m) (h2 : m ≤ 9) : (Str.ofString (toString m)).length = 1 := by
  rcases (by omega : m = 1 ∨ m = 2 ∨ m = 3 ∨ m = 4 ∨ m = 5 ∨ m = 6 ∨ m = 7 ∨ m = 8 ∨ m = 9) with rfl | rfl | rfl | rfl | rfl | rfl | rfl | rfl | rfl <;> decide +kernel
theorem most_log {m : Int} (h1 : 1 ≤ m) (h2 : m ≤ 9) : m.natAbs.log2 < 1920 := by
  rcases (by omega : m = 1 ∨ m = 2 ∨ m = 3 ∨ m = 4 ∨ m = 5 ∨ m = 6 ∨ m = 7 ∨ m = 8 ∨ m = 9) with rfl | rfl | rfl | rfl | rfl | rfl | rfl | rfl | rfl <;> decide +kernel
def spE (ce : Ce) (f : EndC → V) (C : Addr) : Sp := fun vs H Q _ => ∃ (v : V) (e : EndC), vs = [v] ∧ IsE ce H v e ∧ C = ce.at e.k ∧ 1 ≤ e.m ∧ e.m ≤ 9 ∧ isName e.n = true ∧ Q (f e) H
theorem disp_ahead (T : TEnds K mg ce) : DispAt P w K mg base CX0 ce.has "ahead" 1 ["self"] (spE ce fun e => .str e.k.ahead) := by
  refine ⟨fun C hC => ?_⟩
  obtain ⟨k, rfl⟩ := hC
  cases k
  · refine methAt_ok (T.cls .coil) T.m_ahead_coil sc_End_ahead (fun vs H Q E h => ?_) (fun f cdv A outer s H vs Q E hr h => ?_)
    · obtain ⟨v, e, rfl, _⟩ := h; rfl
    · obtain ⟨v, e, rfl, p, hk, h1, h2, hn, q⟩ := h
      have q : Q (.str e.k.ahead) H := q
      rw [← T.inj _ _ hk] at q
      refine ⟨_, (pss_one (ps_ret pe_str)), ?_⟩
      walk_at "rd"
      exact q
  · refine methAt_ok (T.cls .latch) T.m_ahead_latch sc_Latch_ahead (fun vs H Q E h => ?_) (fun f cdv A outer s H vs Q E hr h => ?_)
    · obtain ⟨v, e, rfl, _⟩ := h; rfl
    · obtain ⟨v, e, rfl, p, hk, h1, h2, hn, q⟩ := h
      have q : Q (.str e.k.ahead) H := q
      rw [← T.inj _ _ hk] at q
      refine ⟨_, (pss_one (ps_ret pe_str)), ?_⟩
      walk_at "rd"
      exact q
  · refine methAt_ok (T.cls .unlatch) T.m_ahead_unlatch sc_Unlatch_ahead (fun vs H Q E h => ?_) (fun f cdv A outer s H vs Q E hr h => ?_)
    · obtain ⟨v, e, rfl, _⟩ := h; rfl
    · obtain ⟨v, e, rfl, p, hk, h1, h2, hn, q⟩ := h
      have q : Q (.str e.k.ahead) H := q
      rw [← T.inj _ _ hk] at q
      refine ⟨_, (pss_one (ps_ret pe_str)), ?_⟩
      walk_at "rd"
      exact q
  · refine methAt_ok (T.cls .timer) T.m_ahead_timer sc_Timer_ahead (fun vs H Q E h => ?_) (fun f cdv A outer s H vs Q E hr h => ?_)
    · obtain ⟨v, e, rfl, _⟩ := h; rfl
    · obtain ⟨v, e, rfl, p, hk, h1, h2, hn, q⟩ := h
      have q : Q (.str e.k.ahead) H := q
      rw [← T.inj _ _ hk] at q
      refine ⟨_, (pss_one (ps_ret pe_str)), ?_⟩
      walk_at "rd"
      exact q
  · refine methAt_ok (T.cls .counter) T.m_ahead_counter sc_Counter_ahead (fun vs H Q E h => ?_) (fun f cdv A outer s H vs Q E hr h => ?_)
    · obtain ⟨v, e, rfl, _⟩ := h; rfl
    · obtain ⟨v, e, rfl, p, hk, h1, h2, hn, q⟩ := h
      have q : Q (.str e.k.ahead) H := q
      rw [← T.inj _ _ hk] at q
      refine ⟨_, (pss_one (ps_ret pe_str)), ?_⟩
      walk_at "rd"
      exact q
theorem disp_behind (T : TEnds K mg ce) : DispAt P w K mg base CX0 ce.has "behind" 1 ["self"] (spE ce fun e => .str e.behind) := by
  refine ⟨fun C hC => ?_⟩
  obtain ⟨k, rfl⟩ := hC
  cases k
  · refine methAt_ok (T.cls .coil) T.m_behind_coil sc_End_behind (fun vs H Q E h => ?_) (fun f cdv A outer s H vs Q E hr h => ?_)
    · obtain ⟨v, e, rfl, _⟩ := h; rfl
    · obtain ⟨v, e, rfl, p, hk, h1, h2, hn, q⟩ := h
      have q : Q (.str e.behind) H := q
      unfold EndC.behind at q
      rw [← T.inj _ _ hk] at q
      refine ⟨_, (pss_one (ps_ret pe_str)), ?_⟩
      walk_at "rd"
      exact q
  · refine methAt_ok (T.cls .latch) T.m_behind_latch sc_End_behind (fun vs H Q E h => ?_) (fun f cdv A outer s H vs Q E hr h => ?_)
    · obtain ⟨v, e, rfl, _⟩ := h; rfl
    · obtain ⟨v, e, rfl, p, hk, h1, h2, hn, q⟩ := h
      have q : Q (.str e.behind) H := q
      unfold EndC.behind at q
      rw [← T.inj _ _ hk] at q
      refine ⟨_, (pss_one (ps_ret pe_str)), ?_⟩
      walk_at "rd"
      exact q
  · refine methAt_ok (T.cls .unlatch) T.m_behind_unlatch sc_End_behind (fun vs H Q E h => ?_) (fun f cdv A outer s H vs Q E hr h => ?_)
    · obtain ⟨v, e, rfl, _⟩ := h; rfl
    · obtain ⟨v, e, rfl, p, hk, h1, h2, hn, q⟩ := h
      have q : Q (.str e.behind) H := q
      unfold EndC.behind at q
      rw [← T.inj _ _ hk] at q
      refine ⟨_, (pss_one (ps_ret pe_str)), ?_⟩
      walk_at "rd"
      exact q
  · refine methAt_ok (T.cls .timer) T.m_behind_timer sc_Counting_behind (fun vs H Q E h => ?_) (fun f cdv A outer s H vs Q E hr h => ?_)
    · obtain ⟨v, e, rfl, _⟩ := h; rfl
    · obtain ⟨v, e, rfl, p, hk, h1, h2, hn, q⟩ := h
      have ek := T.inj _ _ hk
      have hcn : e.k.counts = true := by rw [← ek]; rfl
      have q : Q (.str e.behind) H := q
      unfold EndC.behind at q
      rw [hcn] at q
      obtain ⟨a, dx, rfl, ha⟩ := p
      refine ⟨_, (pss_one (ps_ret (pe_op op_add_str pe_str (pe_callTy call_str_int (by rfl) T.z_str (show PySem.bootBuiltins "str" = some (.type "str") by decide +kernel) (pa_cons (pe_fld (pv 0) rfl) pa_nil))))), ?_⟩
      walk_at "rd"
      rw [if_pos rfl] at q
      exact ⟨_, rfl, a, _, dx, _, _, rfl, ha, T.cls _, T.nm _ hcn, E_most hcn, e.m, rfl, most_log h1 h2, line_ge (by rw [most_len h1 h2]; decide +kernel), q⟩
  · refine methAt_ok (T.cls .counter) T.m_behind_counter sc_Counting_behind (fun vs H Q E h => ?_) (fun f cdv A outer s H vs Q E hr h => ?_)
    · obtain ⟨v, e, rfl, _⟩ := h; rfl
    · obtain ⟨v, e, rfl, p, hk, h1, h2, hn, q⟩ := h
      have ek := T.inj _ _ hk
      have hcn : e.k.counts = true := by rw [← ek]; rfl
      have q : Q (.str e.behind) H := q
      unfold EndC.behind at q
      rw [hcn] at q
      obtain ⟨a, dx, rfl, ha⟩ := p
      refine ⟨_, (pss_one (ps_ret (pe_op op_add_str pe_str (pe_callTy call_str_int (by rfl) T.z_str (show PySem.bootBuiltins "str" = some (.type "str") by decide +kernel) (pa_cons (pe_fld (pv 0) rfl) pa_nil))))), ?_⟩
      walk_at "rd"
      rw [if_pos rfl] at q
      exact ⟨_, rfl, a, _, dx, _, _, rfl, ha, T.cls _, T.nm _ hcn, E_most hcn, e.m, rfl, most_log h1 h2, line_ge (by rw [most_len h1 h2]; decide +kernel), q⟩
theorem disp_text (T : TEnds K mg ce) : DispAt P w K mg base CX0 ce.has "text" 2 ["self"] (spE ce fun e => .str e.text) := by
  have G_ahead : DispAt P w K mg base CX0 ce.has "ahead" 1 ["self"] (spE ce fun e => .str e.k.ahead) := disp_ahead T
  have G_behind : DispAt P w K mg base CX0 ce.has "behind" 1 ["self"] (spE ce fun e => .str e.behind) := disp_behind T
  refine ⟨fun C hC => ?_⟩
  obtain ⟨k, rfl⟩ := hC
  have D : MethAt K (ce.at k) "text" "End.text" s_End_text ["self"] := by
    cases k
    · exact T.m_text_coil
    · exact T.m_text_latch
    · exact T.m_text_unlatch
    · exact T.m_text_timer
    · exact T.m_text_counter
  refine methAt_ok (T.cls k) D sc_End_text (fun vs H Q E h => ?_) (fun f cdv A outer s H vs Q E hr h => ?_)
  · obtain ⟨v, e, rfl, _⟩ := h; rfl
  · obtain ⟨v, e, rfl, p, hk, h1, h2, hn, q⟩ := h
    have hnl := isName_len' hn
    refine ⟨_, (pss_one (ps_ret (pe_op op_add_str (pe_op op_add_str (pe_methD0 G_ahead hr pass0 (pv 0)) (pe_fld (pv 0) rfl)) (pe_methD0 G_behind hr pass0 (pv 0))))), ?_⟩
    walk_at "rd"
    have q : Q (.str e.text) H := q
    obtain ⟨a, dx, rfl, ha⟩ := id p
    have l1 : e.k.ahead.length ≤ 8 := by
      cases e.k <;> decide +kernel
    have l2 : e.behind.length ≤ 2 := by
      unfold EndC.behind
      split
      · rw [len_app, most_len h1 h2]
        decide +kernel
      · decide +kernel
    refine ⟨_, rfl, a, ce.at e.k, dx, e.fs, rfl, ha, ⟨_, rfl⟩, E_no e (by decide +kernel) (by decide +kernel), .ref a, e, rfl, p, rfl, h1, h2, hn, ?_⟩
    refine ⟨_, rfl, a, _, dx, _, _, rfl, ha, T.cls _, T.nn _, E_name e, ?_⟩
    refine ⟨_, rfl, _, rfl, line_ge (by omega), _, rfl, a, ce.at e.k, dx, e.fs, rfl, ha, ⟨_, rfl⟩, E_no e (by decide +kernel) (by decide +kernel), .ref a, e, rfl, p, rfl, h1, h2, hn, ?_⟩
    exact ⟨_, rfl, line_ge (by rw [len_app]; omega), q⟩
def spInitEn (ce : Ce) (xc : Xc) : Sp := fun vs H Q E => ∃ (x dx : Addr) (k : Ek) (n : Str), vs = [.ref x, .str n] ∧ H x = some (.ins (ce.at k) dx []) ∧ n.length ≤ sizeLine ∧
  (isName n = true → ∀ H' : Hp, H' x = some (.ins (ce.at k) dx [("name", .str n)]) → But x H H' → Q .non H') ∧ (isName n = false → E (.ref xc.name) none H)
theorem body_en (T : TEnds K mg ce) (X : TExs K mg xc) : ClsFn P w K mg base (L2.CX P w) ce.en "__init__" 3 ["self", "name"] (spInitEn ce xc) := by
  have G_is_name : FnAt P w K mg base CX0 "is_name" 2 _ spIsName := ok_is_name T.names
  have e_NoName := X.e_name
  refine clsFn_okX T.f_init sc_End___init__ (fun vs H Q E h => ?_) (fun f cdv A outer s H vs Q E hr h => ?_)
  · obtain ⟨x, dx, k, n, rfl, _⟩ := h; rfl
  · obtain ⟨x, dx, k, n, rfl, hx, hl, q, qx⟩ := h
    refine ⟨_, (pss_cons (ps_if (pt_not (pt_val (pe_callF G_is_name hr pass0 (pa_cons (pv 1) pa_nil)))) (pss_one (ps_raiseO rfl e_NoName (L2.takes_of rfl rfl rfl rfl))) pss_nil)
        (pss_one (ps_fld (pv 0) (pv 1) rfl))), ?_⟩
    refine ⟨_, rfl, n, rfl, hl, ?_⟩
    cases hn : isName n with
    | false => exact ⟨false, rfl, iteT (qx hn)⟩
    | true =>
      refine ⟨true, rfl, iteF ?_⟩
      refine ⟨_, rfl, _, rfl, x, _, dx, [], rfl, hx, T.cls k, T.nn k, (by show 0 < 1000; decide), ?_⟩
      exact q hn _ upd_same But.upd
theorem init_en (T : TEnds K mg ce) (X : TExs K mg xc) {nm : Str} (k0 : Ek) (c : ClsAt K mg nm (ce.at k0)) (D : MethAt K (ce.at k0) "__init__" "End.__init__" s_End___init__ ["self", "name"]) : MakAt P w K mg base (L2.CX P w) nm (ce.at k0) 3 ["self", "name"] (spInitEn ce xc) := by
  have G_is_name : FnAt P w K mg base CX0 "is_name" 2 _ spIsName := ok_is_name T.names
  have e_NoName := X.e_name
  refine makAt_of c (methAt_okX c.cl D sc_End___init__ (fun vs H Q E h => ?_) (fun f cdv A outer s H vs Q E hr h => ?_))
  · obtain ⟨x, dx, k, n, rfl, _⟩ := h; rfl
  · obtain ⟨x, dx, k, n, rfl, hx, hl, q, qx⟩ := h
    refine ⟨_, (pss_cons (ps_if (pt_not (pt_val (pe_callF G_is_name hr pass0 (pa_cons (pv 1) pa_nil)))) (pss_one (ps_raiseO rfl e_NoName (L2.takes_of rfl rfl rfl rfl))) pss_nil)
        (pss_one (ps_fld (pv 0) (pv 1) rfl))), ?_⟩
    refine ⟨_, rfl, n, rfl, hl, ?_⟩
    cases hn : isName n with
    | false => exact ⟨false, rfl, iteT (qx hn)⟩
    | true =>
      refine ⟨true, rfl, iteF ?_⟩
      refine ⟨_, rfl, _, rfl, x, _, dx, [], rfl, hx, T.cls k, T.nn k, (by show 0 < 1000; decide), ?_⟩
      exact q hn _ upd_same But.upd
def spInitCo (ce : Ce) (xc : Xc) : Sp := fun vs H Q E => ∃ (x dx : Addr) (k : Ek) (n : Str) (m : Int), vs = [.ref x, .str n, .int m] ∧ H x = some (.ins (ce.at k) dx []) ∧ k.counts = true ∧ n.length ≤ sizeLine ∧
  (isName n = true → 1 ≤ m → m ≤ 9 → ∀ H' : Hp, H' x = some (.ins (ce.at k) dx [("name", .str n), ("most", .int m)]) → But x H H' → Q .non H') ∧ (isName n = false → E (.ref xc.name) none H) ∧ (isName n = true → ¬ (1 ≤ m ∧ m ≤ 9) → ∀ H', But x H H' → E (.ref xc.end_) none H')
theorem init_co (T : TEnds K mg ce) (X : TExs K mg xc) {nm : Str} (k0 : Ek) (c : ClsAt K mg nm (ce.at k0)) (D : MethAt K (ce.at k0) "__init__" "Counting.__init__" s_Counting___init__ ["self", "name", "most"]) : MakAt P w K mg base (L2.CX P w) nm (ce.at k0) 4 ["self", "name", "most"] (spInitCo ce xc) := by
  have CX_End__init__ : ClsFn P w K mg base (L2.CX P w) ce.en "__init__" 3 ["self", "name"] (spInitEn ce xc) := body_en T X
  have e_NoEnd := X.e_end
  refine makAt_of c (methAt_okX c.cl D sc_Counting___init__ (fun vs H Q E h => ?_) (fun f cdv A outer s H vs Q E hr h => ?_))
  · obtain ⟨x, dx, k, n, m, rfl, _⟩ := h; rfl
  · obtain ⟨x, dx, k, n, m, rfl, hx, hk, hl, q, qn, qe⟩ := h
    refine ⟨_, (pss_cons (ps_expr (pe_clsF CX_End__init__ hr (passX (L2.takes_of rfl rfl rfl rfl)) (pe_cls T.c_End) (pa_cons (pv 0) (pa_cons (pv 1) pa_nil))))
        (pss_cons (ps_if (PW.pt (pw_or (pt_not (pt_val (pe_callB call_isInt (by rfl) T.z_isinstance (by decide +kernel) (pa_cons (pv 2) (pa_cons (pe_bltn (v := .ty "int") (by rfl) T.z_int (by decide +kernel) rfl) pa_nil))))) (pw_or (pt_val (pe_callB call_isBool (by rfl) T.z_isinstance (by decide +kernel) (pa_cons (pv 2) (pa_cons (pe_bltn (v := .ty "bool") (by rfl) T.z_bool (by decide +kernel) rfl) pa_nil)))) (pw_or1 (pt_not (pt_chain op_le op_le pe_int (pv 2) (pe_gc T.g_MOST_COUNT))))))) (pss_one (ps_raiseO rfl e_NoEnd (L2.takes_of rfl rfl rfl rfl))) pss_nil)
        (pss_one (ps_fld (pv 0) (pv 2) rfl)))), ?_⟩
    walk_at "rd"
    refine ⟨x, dx, k, n, rfl, hx, hl, fun hn H1 h1 b1 => ?_, fun hn => qn hn⟩
    unfold tChain
    walk_at "rd"
    by_cases m1 : 1 ≤ m
    · rw [decide_eq_true m1]
      by_cases m9 : m ≤ 9
      · rw [decide_eq_true m9]
        refine iteT (iteF ⟨_, rfl, _, rfl, x, _, dx, _, rfl, h1, T.cls k, T.nm k hk, (by show 1 < 1000; decide), ?_⟩)
        exact q hn m1 m9 _ upd_same (b1.trans But.upd)
      · rw [decide_eq_false m9]
        exact iteT (iteT (qe hn (fun z => m9 z.2) _ b1))
    · rw [decide_eq_false m1]
      exact iteF (qe hn (fun z => m1 z.1) _ b1)
/-! ### what making asks -/
theorem same_mkE {H : Hp} {x dx C : Addr} {fs : List (Str × V)} (nx : H x = none) (nd : H dx = none) : Same H (upd (upd H dx (.own x)) x (.ins C dx fs)) := fun b o e => by
  rw [upd_ne (ne_of_none e nx), upd_ne (ne_of_none e nd)]
  exact e
theorem mk_en {H : Hp} {k : Ek} {n : Str} {m : Int} {Q : VK} {E : XK} (hk : k.counts = false) (hl : n.length ≤ sizeLine) (q : isName n = true → ∀ (H' : Hp) (x : Addr), Same H H' → H x = none → IsE ce H' (.ref x) ⟨k, n, m⟩ → Q (.ref x) H') (qn : isName n = false → ∀ H', Same H H' → E (.ref xc.name) none H') :
    ∀ x dx, H x = none → H dx = none → dx ≠ x → spInitEn ce xc (.ref x :: ([.str n] ++ [])) (upd (upd H dx (.own x)) x (.ins (ce.at k) dx [])) (fun v H' => v = .non ∧ Q (.ref x) H') E :=
  fun x dx nx nd _ => ⟨x, dx, k, n, rfl, upd_same, hl, fun hn H' h1 h2 => ⟨rfl, q hn H' x (fun c o e => h2 c o (same_mkE nx nd c o e) (ne_of_none e nx)) nx ⟨x, dx, rfl, by unfold EndC.fs; rw [hk]; exact h1⟩⟩, fun hn => qn hn _ (same_mkE nx nd)⟩
theorem mk_co {H : Hp} {k : Ek} {n : Str} {m : Int} {Q : VK} {E : XK} (hk : k.counts = true) (hl : n.length ≤ sizeLine) (q : isName n = true → 1 ≤ m → m ≤ 9 → ∀ (H' : Hp) (x : Addr), Same H H' → H x = none → IsE ce H' (.ref x) ⟨k, n, m⟩ → Q (.ref x) H') (qn : isName n = false → ∀ H', Same H H' → E (.ref xc.name) none H')
    (qe : isName n = true → ¬ (1 ≤ m ∧ m ≤ 9) → ∀ H', Same H H' → E (.ref xc.end_) none H') :
    ∀ x dx, H x = none → H dx = none → dx ≠ x → spInitCo ce xc (.ref x :: ([.str n, .int m] ++ [])) (upd (upd H dx (.own x)) x (.ins (ce.at k) dx [])) (fun v H' => v = .non ∧ Q (.ref x) H') E :=
  fun x dx nx nd _ => ⟨x, dx, k, n, m, rfl, upd_same, hk, hl, fun hn m1 m9 H' h1 h2 => ⟨rfl, q hn m1 m9 H' x (fun c o e => h2 c o (same_mkE nx nd c o e) (ne_of_none e nx)) nx ⟨x, dx, rfl, by unfold EndC.fs; rw [hk]; exact h1⟩⟩, fun hn => qn hn _ (same_mkE nx nd), fun hn hm H' h2 => qe hn hm H' fun c o e => h2 c o (same_mkE nx nd c o e) (ne_of_none e nx)⟩
end

/-! ## isinstance of ends -/
structure TEnK (K : PySem.W.Frag) (mg : Str → Option Value) (ce : Ce) : Prop where
  ends : TEnds K mg ce
  o_coil_coil : PySem.W.kitOne K (.ref ce.coil) (.ref ce.coil) = some true
  o_coil_latch : PySem.W.kitOne K (.ref ce.coil) (.ref ce.latch) = some false
  o_coil_unlatch : PySem.W.kitOne K (.ref ce.coil) (.ref ce.unlatch) = some false
  o_coil_timer : PySem.W.kitOne K (.ref ce.coil) (.ref ce.timer) = some false
  o_coil_counter : PySem.W.kitOne K (.ref ce.coil) (.ref ce.counter) = some false
  o_latch_coil : PySem.W.kitOne K (.ref ce.latch) (.ref ce.coil) = some false
  o_latch_latch : PySem.W.kitOne K (.ref ce.latch) (.ref ce.latch) = some true
  o_latch_unlatch : PySem.W.kitOne K (.ref ce.latch) (.ref ce.unlatch) = some false
  o_latch_timer : PySem.W.kitOne K (.ref ce.latch) (.ref ce.timer) = some false
  o_latch_counter : PySem.W.kitOne K (.ref ce.latch) (.ref ce.counter) = some false
  o_unlatch_coil : PySem.W.kitOne K (.ref ce.unlatch) (.ref ce.coil) = some false
  o_unlatch_latch : PySem.W.kitOne K (.ref ce.unlatch) (.ref ce.latch) = some false
  o_unlatch_unlatch : PySem.W.kitOne K (.ref ce.unlatch) (.ref ce.unlatch) = some true
  o_unlatch_timer : PySem.W.kitOne K (.ref ce.unlatch) (.ref ce.timer) = some false
  o_unlatch_counter : PySem.W.kitOne K (.ref ce.unlatch) (.ref ce.counter) = some false
  o_timer_coil : PySem.W.kitOne K (.ref ce.timer) (.ref ce.coil) = some false
  o_timer_latch : PySem.W.kitOne K (.ref ce.timer) (.ref ce.latch) = some false
  o_timer_unlatch : PySem.W.kitOne K (.ref ce.timer) (.ref ce.unlatch) = some false
  o_timer_timer : PySem.W.kitOne K (.ref ce.timer) (.ref ce.timer) = some true
  o_timer_counter : PySem.W.kitOne K (.ref ce.timer) (.ref ce.counter) = some false
  o_counter_coil : PySem.W.kitOne K (.ref ce.counter) (.ref ce.coil) = some false
  o_counter_latch : PySem.W.kitOne K (.ref ce.counter) (.ref ce.latch) = some false
  o_counter_unlatch : PySem.W.kitOne K (.ref ce.counter) (.ref ce.unlatch) = some false
  o_counter_timer : PySem.W.kitOne K (.ref ce.counter) (.ref ce.timer) = some false
  o_counter_counter : PySem.W.kitOne K (.ref ce.counter) (.ref ce.counter) = some true
  o_coil_en : PySem.W.kitOne K (.ref ce.coil) (.ref ce.en) = some true
  o_latch_en : PySem.W.kitOne K (.ref ce.latch) (.ref ce.en) = some true
  o_unlatch_en : PySem.W.kitOne K (.ref ce.unlatch) (.ref ce.en) = some true
  o_timer_en : PySem.W.kitOne K (.ref ce.timer) (.ref ce.en) = some true
  o_counter_en : PySem.W.kitOne K (.ref ce.counter) (.ref ce.en) = some true
section
variable {K : PySem.W.Frag} {mg : Str → Option Value} {ce : Ce}
theorem TEnK.is_Coil (T : TEnK K mg ce) : Ru.IsT K ce.coil (fun C b => ∃ k : Ek, C = ce.at k ∧ b = decide (k = .coil)) := by
  rintro C b ⟨k, rfl, rfl⟩
  cases k
  · exact ⟨⟨_, _, T.ends.c_Coil⟩, T.o_coil_coil⟩
  · exact ⟨⟨_, _, T.ends.c_Latch⟩, T.o_latch_coil⟩
  · exact ⟨⟨_, _, T.ends.c_Unlatch⟩, T.o_unlatch_coil⟩
  · exact ⟨⟨_, _, T.ends.c_Timer⟩, T.o_timer_coil⟩
  · exact ⟨⟨_, _, T.ends.c_Counter⟩, T.o_counter_coil⟩
theorem TEnK.is_Latch (T : TEnK K mg ce) : Ru.IsT K ce.latch (fun C b => ∃ k : Ek, C = ce.at k ∧ b = decide (k = .latch)) := by
  rintro C b ⟨k, rfl, rfl⟩
  cases k
  · exact ⟨⟨_, _, T.ends.c_Coil⟩, T.o_coil_latch⟩
  · exact ⟨⟨_, _, T.ends.c_Latch⟩, T.o_latch_latch⟩
  · exact ⟨⟨_, _, T.ends.c_Unlatch⟩, T.o_unlatch_latch⟩
  · exact ⟨⟨_, _, T.ends.c_Timer⟩, T.o_timer_latch⟩
  · exact ⟨⟨_, _, T.ends.c_Counter⟩, T.o_counter_latch⟩
theorem TEnK.is_Unlatch (T : TEnK K mg ce) : Ru.IsT K ce.unlatch (fun C b => ∃ k : Ek, C = ce.at k ∧ b = decide (k = .unlatch)) := by
  rintro C b ⟨k, rfl, rfl⟩
  cases k
  · exact ⟨⟨_, _, T.ends.c_Coil⟩, T.o_coil_unlatch⟩
  · exact ⟨⟨_, _, T.ends.c_Latch⟩, T.o_latch_unlatch⟩
  · exact ⟨⟨_, _, T.ends.c_Unlatch⟩, T.o_unlatch_unlatch⟩
  · exact ⟨⟨_, _, T.ends.c_Timer⟩, T.o_timer_unlatch⟩
  · exact ⟨⟨_, _, T.ends.c_Counter⟩, T.o_counter_unlatch⟩
theorem TEnK.is_Timer (T : TEnK K mg ce) : Ru.IsT K ce.timer (fun C b => ∃ k : Ek, C = ce.at k ∧ b = decide (k = .timer)) := by
  rintro C b ⟨k, rfl, rfl⟩
  cases k
  · exact ⟨⟨_, _, T.ends.c_Coil⟩, T.o_coil_timer⟩
  · exact ⟨⟨_, _, T.ends.c_Latch⟩, T.o_latch_timer⟩
  · exact ⟨⟨_, _, T.ends.c_Unlatch⟩, T.o_unlatch_timer⟩
  · exact ⟨⟨_, _, T.ends.c_Timer⟩, T.o_timer_timer⟩
  · exact ⟨⟨_, _, T.ends.c_Counter⟩, T.o_counter_timer⟩
theorem TEnK.is_Counter (T : TEnK K mg ce) : Ru.IsT K ce.counter (fun C b => ∃ k : Ek, C = ce.at k ∧ b = decide (k = .counter)) := by
  rintro C b ⟨k, rfl, rfl⟩
  cases k
  · exact ⟨⟨_, _, T.ends.c_Coil⟩, T.o_coil_counter⟩
  · exact ⟨⟨_, _, T.ends.c_Latch⟩, T.o_latch_counter⟩
  · exact ⟨⟨_, _, T.ends.c_Unlatch⟩, T.o_unlatch_counter⟩
  · exact ⟨⟨_, _, T.ends.c_Timer⟩, T.o_timer_counter⟩
  · exact ⟨⟨_, _, T.ends.c_Counter⟩, T.o_counter_counter⟩
theorem TEnK.is_End (T : TEnK K mg ce) : Ru.IsT K ce.en (fun C b => (∃ k : Ek, C = ce.at k) ∧ b = true) := by
  rintro C b ⟨⟨k, rfl⟩, rfl⟩
  cases k
  · exact ⟨⟨_, _, T.ends.c_Coil⟩, T.o_coil_en⟩
  · exact ⟨⟨_, _, T.ends.c_Latch⟩, T.o_latch_en⟩
  · exact ⟨⟨_, _, T.ends.c_Unlatch⟩, T.o_unlatch_en⟩
  · exact ⟨⟨_, _, T.ends.c_Timer⟩, T.o_timer_en⟩
  · exact ⟨⟨_, _, T.ends.c_Counter⟩, T.o_counter_en⟩
theorem TEnK.c_Coil (T : TEnK K mg ce) : ClsAt K mg "Coil" ce.coil := T.ends.c_Coil
theorem TEnK.c_Latch (T : TEnK K mg ce) : ClsAt K mg "Latch" ce.latch := T.ends.c_Latch
theorem TEnK.c_Unlatch (T : TEnK K mg ce) : ClsAt K mg "Unlatch" ce.unlatch := T.ends.c_Unlatch
theorem TEnK.c_Timer (T : TEnK K mg ce) : ClsAt K mg "Timer" ce.timer := T.ends.c_Timer
theorem TEnK.c_Counter (T : TEnK K mg ce) : ClsAt K mg "Counter" ce.counter := T.ends.c_Counter
theorem TEnK.c_End (T : TEnK K mg ce) : ClsAt K mg "End" ce.en := T.ends.c_End
theorem TEnK.z_isinstance (T : TEnK K mg ce) : mg "isinstance" = none := T.ends.z_isinstance
end
def Ek.ix : Ek → Int
  | .coil => 0
  | .latch => 1
  | .unlatch => 2
  | .timer => 3
  | .counter => 4
theorem Ek.of_ix {i : Int} (h0 : 0 ≤ i) (h1 : i < 5) : ∃ k : Ek, k.ix = i := by
  rcases (by omega : i = 0 ∨ i = 1 ∨ i = 2 ∨ i = 3 ∨ i = 4) with rfl | rfl | rfl | rfl | rfl
  · exact ⟨.coil, rfl⟩
  · exact ⟨.latch, rfl⟩
  · exact ⟨.unlatch, rfl⟩
  · exact ⟨.timer, rfl⟩
  · exact ⟨.counter, rfl⟩
theorem app_assoc (a b c : Str) : a ++ b ++ c = a ++ (b ++ c) := by
  show Str.append (Str.append a b) c = Str.append a (Str.append b c)
  simp [Str.append, Array.append_assoc]
theorem app_empty (a : Str) : a ++ ("" : Str) = a := by
  have e : ("" : Str) = ⟨#[]⟩ := by decide +kernel
  rw [e]
  show Str.append a ⟨#[]⟩ = a
  simp [Str.append]

/-! ## ladders: the plain side -/
structure Rg where
  c : Cond
  e : EndC
structure Lad where
  ins : List Str
  outs : List Str
  rs : List Rg
/-- a name more, where it is not yet there -/
def addW (l : List Str) (n : Str) : List Str := if n ∈ l then l else l ++ [n]
/-- the names that rungs write, each once -/
def writ (rs : List Rg) : List Str := rs.foldl (fun l r => addW l r.e.n) []
/-- what stands at a name in need_own -/
def bears (n : Str) (rs : List Rg) : List Bool := (rs.filter fun r => decide (r.e.n = n) && !decide (r.e.k = .unlatch)).map fun r => r.e.k.counts
def crowd (rs : List Rg) : Bool := rs.any fun r => decide (1 < (bears r.e.n rs).length) && (bears r.e.n rs).any id
def Lad.named (l : Lad) : Bool := (l.ins ++ l.outs).all isName
def Lad.fair (l : Lad) : Bool := decide (l.ins.length ≤ 6) && decide l.ins.Nodup && decide (1 ≤ l.outs.length ∧ l.outs.length ≤ 6) && decide l.outs.Nodup && decide (1 ≤ l.rs.length ∧ l.rs.length ≤ 30) &&
  l.ins.all (fun n => !decide (n ∈ writ l.rs)) && l.outs.all (fun n => decide (n ∈ writ l.rs)) && !crowd l.rs && decide ((writ l.rs).length ≤ 20)
theorem addW_mem {l : List Str} {n x : Str} : x ∈ addW l n ↔ x ∈ l ∨ x = n := by
  unfold addW
  split
  · constructor
    · exact .inl
    · rintro (h | rfl)
      · exact h
      · assumption
  · simp
theorem addW_nodup {l : List Str} {n : Str} (h : l.Nodup) : (addW l n).Nodup := by
  unfold addW
  split
  · exact h
  · rw [List.nodup_append]
    refine ⟨h, by simp, fun a ha b hb e => ?_⟩
    rw [List.mem_singleton.mp hb] at e
    subst e
    contradiction
theorem addW_len (l : List Str) (n : Str) : (addW l n).length ≤ l.length + 1 := by
  unfold addW
  split <;> simp
theorem writ_snoc (rs : List Rg) (r : Rg) : writ (rs ++ [r]) = addW (writ rs) r.e.n := by
  unfold writ
  rw [List.foldl_append]
  rfl
theorem writ_ind {p : List Rg → Prop} (h0 : p []) (hs : ∀ rs r, p rs → p (rs ++ [r])) : ∀ rs, p rs := by
  have h : ∀ n (rs : List Rg), rs.length = n → p rs := by
    intro n
    induction n with
    | zero =>
      intro rs h
      rw [List.length_eq_zero_iff.mp h]
      exact h0
    | succ n ih =>
      intro rs h
      have hne : rs ≠ [] := by intro e; rw [e] at h; simp at h
      rw [← List.dropLast_concat_getLast hne]
      exact hs _ _ (ih _ (by rw [List.length_dropLast, h]; rfl))
  exact fun rs => h _ rs rfl
theorem writ_mem {x : Str} (rs : List Rg) : x ∈ writ rs ↔ ∃ r ∈ rs, r.e.n = x := by
  refine writ_ind (p := fun rs => x ∈ writ rs ↔ ∃ r ∈ rs, r.e.n = x) (by simp [writ]) (fun rs r ih => ?_) rs
  rw [writ_snoc, addW_mem, ih]
  constructor
  · rintro (⟨q, hq, e⟩ | rfl)
    · exact ⟨q, List.mem_append_left _ hq, e⟩
    · exact ⟨r, by simp, rfl⟩
  · rintro ⟨q, hq, e⟩
    rcases List.mem_append.mp hq with hq | hq
    · exact .inl ⟨q, hq, e⟩
    · rw [List.mem_singleton.mp hq] at e
      exact .inr e.symm
theorem writ_nodup (rs : List Rg) : (writ rs).Nodup := writ_ind (p := fun rs => (writ rs).Nodup) (by simp [writ]) (fun rs r ih => by rw [writ_snoc]; exact addW_nodup ih) rs
theorem writ_len (rs : List Rg) : (writ rs).length ≤ rs.length := writ_ind (p := fun rs => (writ rs).length ≤ rs.length) (by simp [writ]) (fun rs r ih => by
  rw [writ_snoc, List.length_append]
  have := addW_len (writ rs) r.e.n
  simp
  omega) rs
theorem writ_pos {rs : List Rg} (h : rs ≠ []) : 1 ≤ (writ rs).length := by
  obtain ⟨r, l, rfl⟩ := List.exists_cons_of_ne_nil h
  have : r.e.n ∈ writ (r :: l) := (writ_mem _).mpr ⟨r, by simp, rfl⟩
  exact List.length_pos_of_mem this
def nmW (l : List Str) : List (Key × V) := l.map fun n => (.inr n, .bl true)
theorem nmW_any (n : Str) : ∀ l : List Str, ((nmW l).any fun kv => decide (kv.1 = (Sum.inr n : Key))) = decide (n ∈ l)
  | [] => by simp [nmW]
  | x :: l => by
    have ih := nmW_any n l
    unfold nmW at ih ⊢
    rw [List.map_cons, List.any_cons, ih, Bool.eq_iff_iff]
    simp only [Bool.or_eq_true, decide_eq_true_eq, List.mem_cons]
    constructor
    · rintro (h | h)
      · injection h with h
        exact .inl h.symm
      · exact .inr h
    · rintro (rfl | h)
      · exact .inl rfl
      · exact .inr h
theorem nmW_put (l : List Str) (n : Str) : putK (nmW l) (Sum.inr n : Key) (.bl true) = nmW (addW l n) := by
  unfold putK addW
  rw [nmW_any]
  by_cases h : n ∈ l
  · rw [decide_eq_true h, if_pos rfl, if_pos h]
    unfold nmW
    rw [List.map_map]
    apply List.map_congr_left
    intro x _
    simp only [Function.comp]
    split <;> rfl
  · rw [decide_eq_false h, if_neg (by decide), if_neg h]
    simp [nmW]
theorem bears_snoc (n : Str) (rs : List Rg) (r : Rg) : bears n (rs ++ [r]) = if (decide (r.e.n = n) && !decide (r.e.k = .unlatch)) = true then bears n rs ++ [r.e.k.counts] else bears n rs := by
  unfold bears
  rw [List.filter_append, List.map_append]
  simp only [List.filter_cons, List.filter_nil]
  split <;> simp
/-! ## ladders: the objects -/
structure Cs where
  cl : Cl
  ce : Ce
  rg : Addr
  ld : Addr
def Cs.has (cs : Cs) (C : Addr) : Prop := cs.cl.has C ∨ cs.ce.has C ∨ C = cs.rg ∨ C = cs.ld
def IsR (cs : Cs) (H : Hp) (v : V) (r : Rg) : Prop := ∃ a dx p q, v = .ref a ∧ H a = some (.ins cs.rg dx [("part", p), ("end", q)]) ∧ IsP cs.cl H p r.c ∧ IsE cs.ce H q r.e
def IsL (K : PySem.W.Frag) (cs : Cs) (H : Hp) (v : V) (l : Lad) : Prop := ∃ a dx ti tt tr ws, v = .ref a ∧ H a = some (.ins cs.ld dx [("inputs", .ref ti), ("outputs", .ref tt), ("rungs", .ref tr)]) ∧ Tp K H ti (l.ins.map V.str) ∧ Tp K H tt (l.outs.map V.str) ∧ Tp K H tr ws ∧ Two (IsR cs H) ws l.rs
theorem IsR.mono {cs : Cs} {H H' : Hp} (k : Imm cs.has H H') {v : V} {r : Rg} (p : IsR cs H v r) : IsR cs H' v r := by
  obtain ⟨a, dx, x, y, e, h, px, py⟩ := p
  exact ⟨a, dx, x, y, e, k _ _ h (.inr (.inr (.inl rfl))), px.mono (k.less fun _ q => .inl q), py.mono (k.less fun _ q => .inr (.inl q))⟩
theorem IsL.mono {K : PySem.W.Frag} {cs : Cs} {H H' : Hp} (k : Imm cs.has H H') {v : V} {l : Lad} (p : IsL K cs H v l) : IsL K cs H' v l := by
  obtain ⟨a, dx, ti, tt, tr, ws, e, h, h1, h2, h3, h4⟩ := p
  exact ⟨a, dx, ti, tt, tr, ws, e, k _ _ h (.inr (.inr (.inr rfl))), h1.mono k, h2.mono k, h3.mono k, h4.mono fun _ _ q => q.mono k⟩

--%% N6
/-! ## ladders: made -/
abbrev s_Rung___init__ : Stmt := inClass (top 30) 0
theorem sc_Rung___init__ : FnScope ["self", "part", "end"] ["self", "part", "end"] (defScope s_Rung___init__) := ⟨rfl, rfl, rfl, by decide +kernel, rfl, by decide +kernel, by decide +kernel⟩
abbrev s_need_between : Stmt := top 31
theorem sc_need_between : FnScope ["things", "least", "most"] ["things", "least", "most"] (defScope s_need_between) := ⟨rfl, rfl, rfl, by decide +kernel, rfl, by decide +kernel, by decide +kernel⟩
abbrev s_need_single : Stmt := top 32
theorem sc_need_single : FnScope ["names"] ["names"] (defScope s_need_single) := ⟨rfl, rfl, rfl, by decide +kernel, rfl, by decide +kernel, by decide +kernel⟩
abbrev s_need_own : Stmt := top 33
theorem sc_need_own : FnScope ["rungs", "bearers", "rung", "name", "counts"] ["rungs"] (defScope s_need_own) := ⟨rfl, rfl, rfl, by decide +kernel, rfl, by decide +kernel, by decide +kernel⟩
abbrev s_Ladder___init__ : Stmt := inClass (top 34) 0
theorem sc_Ladder___init__ : FnScope ["self", "inputs", "outputs", "rungs", "name", "names"] ["self", "inputs", "outputs", "rungs"] (defScope s_Ladder___init__) := ⟨rfl, rfl, rfl, by decide +kernel, rfl, by decide +kernel, by decide +kernel⟩
abbrev s_Ladder_written_names : Stmt := inClass (top 34) 1
theorem sc_Ladder_written_names : FnScope ["self", "found", "rung"] ["self"] (defScope s_Ladder_written_names) := ⟨rfl, rfl, rfl, by decide +kernel, rfl, by decide +kernel, by decide +kernel⟩
structure TLad (K : PySem.W.Frag) (mg : Str → Option Value) (cs : Cs) (cc : Addr) (xc : Xc) : Prop where
  enk : TEnK K mg cs.ce
  exs : TExs K mg xc
  c_Rung : ClsAt K mg "Rung" cs.rg
  c_Ladder : ClsAt K mg "Ladder" cs.ld
  c_Counting : ClsAt K mg "Counting" cc
  q_coil : PySem.W.kitOne K (.ref cs.ce.coil) (.ref cc) = some false
  q_latch : PySem.W.kitOne K (.ref cs.ce.latch) (.ref cc) = some false
  q_unlatch : PySem.W.kitOne K (.ref cs.ce.unlatch) (.ref cc) = some false
  q_timer : PySem.W.kitOne K (.ref cs.ce.timer) (.ref cc) = some true
  q_counter : PySem.W.kitOne K (.ref cs.ce.counter) (.ref cc) = some true
  np_rg : NoAttr K cs.rg "part"
  ne_rg : NoAttr K cs.rg "end"
  ni_ld : NoAttr K cs.ld "inputs"
  no_ld : NoAttr K cs.ld "outputs"
  nr_ld : NoAttr K cs.ld "rungs"
  d_between : DefAt K mg "need_between" s_need_between ["things", "least", "most"]
  d_single : DefAt K mg "need_single" s_need_single ["names"]
  d_own : DefAt K mg "need_own" s_need_own ["rungs"]
  i_rg : MethAt K cs.rg "__init__" "Rung.__init__" s_Rung___init__ ["self", "part", "end"]
  i_ld : MethAt K cs.ld "__init__" "Ladder.__init__" s_Ladder___init__ ["self", "inputs", "outputs", "rungs"]
  m_written : MethAt K cs.ld "written_names" "Ladder.written_names" s_Ladder_written_names ["self"]
  z_len : mg "len" = none
  z_set : mg "set" = none
  z_tuple : mg "tuple" = none
  z_any : mg "any" = none
  z_isinstance : mg "isinstance" = none
  g_MOST_NAMES : GlobC mg "MOST_NAMES" (.int 6)
  g_MOST_RUNGS : GlobC mg "MOST_RUNGS" (.int 30)
  g_MOST_WRITTEN : GlobC mg "MOST_WRITTEN" (.int 20)
section
variable {P : Program} {w : World} {K : PySem.W.Frag} {mg : Str → Option Value} {base : Heap} {cs : Cs} {cc : Addr} {xc : Xc}
theorem TLad.is_Counting (T : TLad K mg cs cc xc) : Ru.IsT K cc (fun C b => ∃ k : Ek, C = cs.ce.at k ∧ b = k.counts) := by
  rintro C b ⟨k, rfl, rfl⟩
  cases k
  · exact ⟨⟨_, _, T.enk.ends.c_Coil⟩, T.q_coil⟩
  · exact ⟨⟨_, _, T.enk.ends.c_Latch⟩, T.q_latch⟩
  · exact ⟨⟨_, _, T.enk.ends.c_Unlatch⟩, T.q_unlatch⟩
  · exact ⟨⟨_, _, T.enk.ends.c_Timer⟩, T.q_timer⟩
  · exact ⟨⟨_, _, T.enk.ends.c_Counter⟩, T.q_counter⟩
theorem TLad.is_Unlatch (T : TLad K mg cs cc xc) : Ru.IsT K cs.ce.unlatch (fun C b => ∃ k : Ek, C = cs.ce.at k ∧ b = decide (k = .unlatch)) := T.enk.is_Unlatch
theorem TLad.c_Unlatch (T : TLad K mg cs cc xc) : ClsAt K mg "Unlatch" cs.ce.unlatch := T.enk.c_Unlatch
theorem lkR1 {x y : V} : List.lookup ("part" : Str) [(("part" : Str), x), (("end" : Str), y)] = some x := by simp [List.lookup]
theorem lkR2 {x y : V} : List.lookup ("end" : Str) [(("part" : Str), x), (("end" : Str), y)] = some y := by
  have e : (("end" : Str) == ("part" : Str)) = false := by decide +kernel
  simp [List.lookup, e]
theorem lkL1 {x y z : V} : List.lookup ("inputs" : Str) [(("inputs" : Str), x), (("outputs" : Str), y), (("rungs" : Str), z)] = some x := by simp [List.lookup]
theorem lkL2 {x y z : V} : List.lookup ("outputs" : Str) [(("inputs" : Str), x), (("outputs" : Str), y), (("rungs" : Str), z)] = some y := by
  have e : (("outputs" : Str) == ("inputs" : Str)) = false := by decide +kernel
  simp [List.lookup, e]
theorem lkL3 {x y z : V} : List.lookup ("rungs" : Str) [(("inputs" : Str), x), (("outputs" : Str), y), (("rungs" : Str), z)] = some z := by
  have e : (("rungs" : Str) == ("inputs" : Str)) = false := by decide +kernel
  have e2 : (("rungs" : Str) == ("outputs" : Str)) = false := by decide +kernel
  simp [List.lookup, e, e2]
theorem lkLw {x y z : V} : List.lookup ("written_names" : Str) [(("inputs" : Str), x), (("outputs" : Str), y), (("rungs" : Str), z)] = none := by
  have e : (("written_names" : Str) == ("inputs" : Str)) = false := by decide +kernel
  have e2 : (("written_names" : Str) == ("outputs" : Str)) = false := by decide +kernel
  have e3 : (("written_names" : Str) == ("rungs" : Str)) = false := by decide +kernel
  simp [List.lookup, e, e2, e3]
theorem all_flatS : ∀ l : List Str, (l.map V.str).all flatV = true
  | [] => rfl
  | _ :: l => all_flatS l
theorem Same.imm0 {H H' : Hp} (s : Same H H') : Imm (fun _ => False) H H' := Same.imm s
def spInitRg (cs : Cs) : Sp := fun vs H Q _ => ∃ (x dx : Addr) (p q : V), vs = [.ref x, p, q] ∧ H x = some (.ins cs.rg dx []) ∧ ∀ H' : Hp, H' x = some (.ins cs.rg dx [("part", p), ("end", q)]) → But x H H' → Q .non H'
theorem ok_init_rg (T : TLad K mg cs cc xc) : MakAt P w K mg base CX0 "Rung" cs.rg 1 ["self", "part", "end"] (spInitRg cs) := by
  refine makAt_of T.c_Rung (methAt_ok T.c_Rung.cl T.i_rg sc_Rung___init__ (fun vs H Q E h => ?_) (fun f cdv A outer s H vs Q E hr h => ?_))
  · obtain ⟨x, dx, p, q, rfl, _⟩ := h; rfl
  · obtain ⟨x, dx, p, q, rfl, hx, k⟩ := h
    refine ⟨_, (pss_cons (ps_fld (pv 0) (pv 1) rfl)
        (pss_one (ps_fld (pv 0) (pv 2) rfl))), ?_⟩
    refine ⟨_, rfl, _, rfl, x, _, dx, [], rfl, hx, T.c_Rung.cl, T.np_rg, (by show 0 < 1000; decide), ?_⟩
    refine ⟨_, rfl, _, rfl, x, _, dx, _, rfl, upd_same, T.c_Rung.cl, T.ne_rg, (by show 1 < 1000; decide), ?_⟩
    exact k _ upd_same (But.upd.trans But.upd)
def spBetween (K : PySem.W.Frag) (xc : Xc) : Sp := fun vs H Q E => ∃ (t : Addr) (ws : List V) (a b : Int), vs = [.ref t, .int a, .int b] ∧ SqT K H t ws ∧ (a ≤ ws.length ∧ (ws.length : Int) ≤ b → Q .non H) ∧ (¬ (a ≤ ws.length ∧ (ws.length : Int) ≤ b) → E (.ref xc.ladder) none H)
theorem ok_between (T : TLad K mg cs cc xc) : FnAt P w K mg base (L2.CX P w) "need_between" 1 ["things", "least", "most"] (spBetween K xc) := by
  have e_NoLadder := T.exs.e_ladder
  refine fnAt_okX T.d_between sc_need_between (fun vs H Q E h => ?_) (fun f cdv A outer s H vs Q E hr h => ?_)
  · obtain ⟨t, ws, a, b, rfl, _⟩ := h; rfl
  · obtain ⟨t, ws, a, b, rfl, ht, q, qx⟩ := h
    refine ⟨_, (pss_one (ps_if (pt_not (pt_chain op_le op_le (pv 1) (pe_callB call_len_seq (by rfl) T.z_len PySem.boot_len (pa_cons (pv 0) pa_nil)) (pv 2))) (pss_one (ps_raiseO rfl e_NoLadder (L2.takes_of rfl rfl rfl rfl))) pss_nil)), ?_⟩
    unfold tChain
    walk_at "rd"
    refine ⟨ws, .inr ht, ?_⟩
    by_cases h1 : a ≤ ws.length
    · rw [decide_eq_true h1]
      by_cases h2 : (ws.length : Int) ≤ b
      · rw [decide_eq_true h2]
        exact iteT (iteF (q ⟨h1, h2⟩))
      · rw [decide_eq_false h2]
        exact iteT (iteT (qx fun z => h2 z.2))
    · rw [decide_eq_false h1]
      exact iteF (qx fun z => h1 z.1)
def spSingleN (K : PySem.W.Frag) (xc : Xc) : Sp := fun vs H Q E => ∃ (t : Addr) (xs : List Str), vs = [.ref t] ∧ SqT K H t (xs.map V.str) ∧ xs.length ≤ 1000 ∧ (xs.Nodup → Q .non H) ∧ (¬ xs.Nodup → E (.ref xc.ladder) none H)
theorem ok_single1 (T : TLad K mg cs cc xc) : FnAt P w K mg base (L2.CX P w) "need_single" 1 ["names"] (spSingleN K xc) := by
  have e_NoLadder := T.exs.e_ladder
  refine fnAt_okX T.d_single sc_need_single (fun vs H Q E h => ?_) (fun f cdv A outer s H vs Q E hr h => ?_)
  · obtain ⟨t, xs, rfl, _⟩ := h; rfl
  · obtain ⟨t, xs, rfl, ht, hl, q, qx⟩ := h
    refine ⟨_, (pss_one (ps_if (pt_cmpR op_ne (pe_lenSetS rfl (by rfl) T.z_len (by rfl) T.z_set (pv 0)) (pe_callB call_len_seq (by rfl) T.z_len PySem.boot_len (pa_cons (pv 0) pa_nil)) (nomark _)) (pss_one (ps_raiseO rfl e_NoLadder (L2.takes_of rfl rfl rfl rfl))) pss_nil)), ?_⟩
    walk_at "rd"
    refine ⟨_, rfl, t, xs, rfl, .inr ht, hl, fun n hn hx => ⟨_, .inr ht, scal_ii, ?_⟩⟩
    rw [List.length_map]
    by_cases hd : xs.Nodup
    · rw [decide_eq_true (by rw [hx.mpr hd])]
      exact iteF (q hd)
    · rw [decide_eq_false (fun e => hd (hx.mp (by injection e with e; omega)))]
      exact iteT (qx hd)
def spWrit (K : PySem.W.Frag) (cs : Cs) : Sp := fun vs H Q _ => ∃ (v : V) (l : Lad), vs = [v] ∧ IsL K cs H v l ∧ l.rs.length ≤ 1000 ∧ ∀ (H' : Hp) (p : Addr), Same H H' → H' p = some (.tup ((writ l.rs).map V.str)) → Q (.ref p) H'
theorem disp_written (T : TLad K mg cs cc xc) : DispAt P w K mg base CX0 (fun C => C = cs.ld) "written_names" 1 ["self"] (fun _ => spWrit K cs) := by
  refine ⟨fun C hC => ?_⟩
  subst hC
  refine methAt_ok T.c_Ladder.cl T.m_written sc_Ladder_written_names (fun vs H Q E h => ?_) (fun f cdv A outer s H vs Q E hr h => ?_)
  · obtain ⟨v, l, rfl, _⟩ := h; rfl
  · obtain ⟨v, l, rfl, p, hl, k⟩ := h
    have hu := hu_of hr
    obtain ⟨a, dx, ti, tt, tr, ws, rfl, ha, h1, h2, h3, h4⟩ := p
    have hlen := h4.length
    refine ⟨_, (pss_cons (ps_set (i := 1) sc_Ladder_written_names.nd rfl (by first | exact Or.inl rfl | exact Or.inr rfl) pe_dnewK)
        (pss_cons (ps_for PassesOwn.never rfl (pi_tup (pe_fld (pv 0) rfl)) (pg_name (i := 2) sc_Ladder_written_names.nd rfl (by first | exact Or.inl rfl | exact Or.inr rfl)) (pss_one (ps_dput hu (pv 1) (pe_fld (pe_fld (pv 2) rfl) rfl) pe_bl rfl)))
        (pss_one (ps_ret (pe_tupKeys T.z_tuple (pv 1)))))), ?_⟩
    walk_at "rd"
    refine fun d nd => ⟨_, rfl, a, _, dx, _, _, rfl, Same.new nd _ _ ha, T.c_Ladder.cl, T.nr_ld, lkL3, tr, rfl, ⟨_, (h3.mono (Same.imm0 (Same.new nd))).seq⟩,
      for_tup (K := K) (a := tr) (xs := ws) (fun i σ H' => ∃ v2 : Option V, σ = [some (.ref a), some (.ref d), v2] ∧ Same H H' ∧ H' d = some (.dK (nmW (writ (l.rs.take i))))) ⟨none, rfl, Same.new nd, upd_same⟩ (fun i σ H' _ ⟨_, _, s, _⟩ => (h3.mono (Same.imm0 s)).seq) ?_ ?_⟩
    · rintro i x σ H' hx ⟨v2, rfl, s1, hd⟩
      obtain ⟨r, hr', x', dx', p', q', rfl, hx', _, hq'⟩ := h4.at hx
      obtain ⟨e, dx2, rfl, he⟩ := hq'
      have hi := List.getElem?_eq_some_iff.mp hr'
      have hw := writ_len (l.rs.take i)
      rw [List.length_take] at hw
      refine ⟨_, rfl, _, rfl, x', _, dx', _, _, rfl, s1 _ _ hx', T.c_Rung.cl, T.ne_rg, lkR2, e, _, dx2, _, _, rfl, s1 _ _ he, T.enk.ends.cls _, T.enk.ends.nn _, E_name _, d, _, rfl, DPut.k (k := .inr r.e.n) hd ?_, _, rfl, Same.mut s1 nd, ?_⟩
      · rw [nmW, List.length_map, sizeLine_eq]
        omega
      · rw [upd_same, nmW_put, List.take_succ, hr']
        show _ = some (HO.dK (nmW (writ (_ ++ [r]))))
        rw [writ_snoc]
    · rintro σ H' ⟨v2, rfl, s1, hd⟩
      rw [hlen, List.take_length] at hd
      refine ⟨_, rfl, d, _, rfl, hd, fun q nq => k _ q (s1.trans (Same.new nq)) ?_⟩
      rw [upd_same, nmW, List.map_map]
      rfl
/-! ### need_own: what ends bear a name -/
def bk (ls : List (Str × Addr)) : List (Key × V) := ls.map fun p => (.inr p.1, .ref p.2)
theorem bk_some {n : Str} {v : V} : ∀ {ls : List (Str × Addr)}, valV (bk ls) (Sum.inr n : Key) = some v → ∃ a, (n, a) ∈ ls ∧ v = .ref a
  | [], h => by cases h
  | (x, a) :: ls, h => by
    by_cases e : x = n
    · subst e
      have h2 : valV (bk ((x, a) :: ls)) (Sum.inr x : Key) = some (.ref a) := valV_pos rfl
      rw [h2] at h
      cases h
      exact ⟨a, List.mem_cons_self, rfl⟩
    · have h2 : valV (bk ((x, a) :: ls)) (Sum.inr n : Key) = valV (bk ls) (Sum.inr n : Key) := valV_neg fun q => e (by injection q)
      rw [h2] at h
      obtain ⟨b, hb, ev⟩ := bk_some h
      exact ⟨b, List.mem_cons_of_mem _ hb, ev⟩
theorem bk_none {n : Str} : ∀ {ls : List (Str × Addr)}, valV (bk ls) (Sum.inr n : Key) = none → n ∉ ls.map (·.1)
  | [], _ => by simp
  | (x, a) :: ls, h => by
    by_cases e : x = n
    · subst e
      have h2 : valV (bk ((x, a) :: ls)) (Sum.inr x : Key) = some (.ref a) := valV_pos rfl
      rw [h2] at h
      cases h
    · have h2 : valV (bk ((x, a) :: ls)) (Sum.inr n : Key) = valV (bk ls) (Sum.inr n : Key) := valV_neg fun q => e (by injection q)
      rw [h2] at h
      have := bk_none h
      simp only [List.map_cons, List.mem_cons, not_or]
      exact ⟨fun q => e q.symm, this⟩
structure Bear (H0 H : Hp) (d : Addr) (rs : List Rg) (ls : List (Str × Addr)) : Prop where
  dict : H d = some (.dK (bk ls))
  nd : (ls.map (·.1)).Nodup
  nda : (ls.map (·.2)).Nodup
  at_ : ∀ p ∈ ls, H p.2 = some (.lst ((bears p.1 rs).map V.bl)) ∧ H0 p.2 = none ∧ p.2 ≠ d
  all_ : ∀ r ∈ rs, r.e.k ≠ .unlatch → r.e.n ∈ ls.map (·.1)
  len : ls.length ≤ rs.length
theorem bears_nil {n : Str} {rs : List Rg} (h : ∀ r ∈ rs, r.e.k ≠ .unlatch → r.e.n ≠ n) : bears n rs = [] := by
  unfold bears
  rw [List.filter_eq_nil_iff.mpr]
  · rfl
  · intro r hr q
    simp only [Bool.and_eq_true, decide_eq_true_eq, Bool.not_eq_true', decide_eq_false_iff_not] at q
    exact h r hr q.2 q.1
theorem bears_len (n : Str) (rs : List Rg) : (bears n rs).length ≤ rs.length := by
  unfold bears
  rw [List.length_map]
  exact List.length_filter_le _ _
theorem nodup_key {α β : Type} {f : α → β} : ∀ {l : List α} {a b : α}, (l.map f).Nodup → a ∈ l → b ∈ l → f a = f b → a = b
  | x :: l, a, b, h, ha, hb, e => by
    rw [List.map_cons, List.nodup_cons] at h
    rcases List.mem_cons.mp ha with ea | ha2
    · rcases List.mem_cons.mp hb with eb | hb2
      · rw [ea, eb]
      · exact absurd (List.mem_map.mpr ⟨b, hb2, by rw [← e, ea]⟩) h.1
    · rcases List.mem_cons.mp hb with eb | hb2
      · exact absurd (List.mem_map.mpr ⟨a, ha2, by rw [e, eb]⟩) h.1
      · exact nodup_key h.2 ha2 hb2 e
/-- an unlatch bears nothing -/
theorem Bear.pass {H0 H : Hp} {d : Addr} {rs : List Rg} {ls : List (Str × Addr)} {r : Rg} (b : Bear H0 H d rs ls) (h : r.e.k = .unlatch) : Bear H0 H d (rs ++ [r]) ls := by
  refine ⟨b.dict, b.nd, b.nda, fun p hp => ?_, fun q hq hk => ?_, by rw [List.length_append]; have := b.len; omega⟩
  · rw [bears_snoc, if_neg (by rw [decide_eq_true h]; simp)]
    exact b.at_ p hp
  · rcases List.mem_append.mp hq with hq | hq
    · exact b.all_ q hq hk
    · rw [List.mem_singleton.mp hq] at hk
      exact absurd h hk
/-- one more at a name that stands there -/
theorem Bear.more {H0 H H1 : Hp} {d a : Addr} {rs : List Rg} {ls : List (Str × Addr)} {r : Rg} (b : Bear H0 H d rs ls) (s : Same H H1) (h : r.e.k ≠ .unlatch) (ha : (r.e.n, a) ∈ ls) :
    H1 a = some (.lst ((bears r.e.n rs).map V.bl)) ∧ Bear H0 (upd H1 a (.lst ((bears r.e.n rs).map V.bl ++ [.bl r.e.k.counts]))) d (rs ++ [r]) ls := by
  obtain ⟨h1, h2, h3⟩ := b.at_ _ ha
  refine ⟨s _ _ h1, ⟨by rw [upd_ne h3.symm]; exact s _ _ b.dict, b.nd, b.nda, fun p hp => ?_, fun q hq hk => ?_, by rw [List.length_append]; have := b.len; omega⟩⟩
  · obtain ⟨g1, g2, g3⟩ := b.at_ p hp
    refine ⟨?_, g2, g3⟩
    by_cases e : p.1 = r.e.n
    · have ep : p = (r.e.n, a) := nodup_key b.nd hp ha e
      subst ep
      rw [upd_same, bears_snoc, if_pos (by rw [decide_eq_true rfl, decide_eq_false h]; rfl), List.map_append]
      rfl
    · have ne : p.2 ≠ a := fun q => e (by rw [nodup_key (f := Prod.snd) b.nda hp ha q])
      rw [upd_ne ne, bears_snoc, if_neg (by rw [decide_eq_false fun q => e q.symm]; simp)]
      exact s _ _ g1
  · rcases List.mem_append.mp hq with hq | hq
    · exact b.all_ q hq hk
    · rw [List.mem_singleton.mp hq]
      exact List.mem_map.mpr ⟨_, ha, rfl⟩
/-- a new name -/
theorem Bear.new {H0 H : Hp} {d z : Addr} {rs : List Rg} {ls : List (Str × Addr)} {r : Rg} (b : Bear H0 H d rs ls) (s0 : Same H0 H) (h : r.e.k ≠ .unlatch) (hn : r.e.n ∉ ls.map (·.1)) (nz : H z = none) {Hd : Hp} (hd : ∀ c, c ≠ d → Hd c = upd H z (.lst []) c) (hdd : Hd d = some (.dK (bk (ls ++ [(r.e.n, z)])))) :
    Bear H0 (upd Hd z (.lst ([] ++ [.bl r.e.k.counts]))) d (rs ++ [r]) (ls ++ [(r.e.n, z)]) := by
  have zd : z ≠ d := fun e => by rw [e, b.dict] at nz; cases nz
  have nl : ∀ p ∈ ls, p.2 ≠ z := fun p hp e => by
    have := (b.at_ p hp).1
    rw [e, nz] at this
    cases this
  refine ⟨by rw [upd_ne zd.symm]; exact hdd, ?_, ?_, fun p hp => ?_, fun q hq hk => ?_, by rw [List.length_append, List.length_append]; have := b.len; simp; omega⟩
  · rw [List.map_append, List.nodup_append]
    refine ⟨b.nd, by simp, fun x hx y hy e => ?_⟩
    simp at hy
    rw [hy] at e
    exact hn (e ▸ hx)
  · rw [List.map_append, List.nodup_append]
    refine ⟨b.nda, by simp, fun x hx y hy e => ?_⟩
    simp at hy
    rw [hy] at e
    obtain ⟨p, hp, rfl⟩ := List.mem_map.mp hx
    exact nl p hp e
  · rcases List.mem_append.mp hp with hp | hp
    · obtain ⟨g1, g2, g3⟩ := b.at_ p hp
      have e : ¬ r.e.n = p.1 := fun q => hn (q ▸ List.mem_map.mpr ⟨p, hp, rfl⟩)
      refine ⟨?_, g2, g3⟩
      rw [upd_ne (nl p hp), hd _ g3, upd_ne (nl p hp), bears_snoc, if_neg (by rw [decide_eq_false e]; simp)]
      exact g1
    · rw [List.mem_singleton.mp hp]
      refine ⟨?_, s0.free nz, zd⟩
      have e : bears r.e.n rs = [] := bears_nil fun q hq hk e => hn (e ▸ b.all_ q hq hk)
      show upd Hd z _ z = _
      rw [upd_same]
      show _ = some (HO.lst ((bears r.e.n (rs ++ [r])).map V.bl))
      rw [bears_snoc, if_pos (by rw [decide_eq_true rfl, decide_eq_false h]; rfl), e]
      rfl
  · rcases List.mem_append.mp hq with hq | hq
    · rw [List.map_append]
      exact List.mem_append_left _ (b.all_ q hq hk)
    · rw [List.mem_singleton.mp hq, List.map_append]
      exact List.mem_append_right _ (by simp)
def overs (rs : List Rg) (n : Str) : Bool := decide (1 < (bears n rs).length) && (bears n rs).any id
theorem Bear.crowd_eq {H0 H : Hp} {d : Addr} {rs : List Rg} {ls : List (Str × Addr)} (b : Bear H0 H d rs ls) : crowd rs = (ls.map (·.1)).any (overs rs) := by
  rw [Bool.eq_iff_iff, List.any_eq_true]
  unfold crowd
  rw [List.any_eq_true]
  constructor
  · rintro ⟨r, hr, h⟩
    by_cases hk : ∃ q ∈ rs, q.e.k ≠ .unlatch ∧ q.e.n = r.e.n
    · obtain ⟨q, hq, h1, h2⟩ := hk
      exact ⟨r.e.n, h2 ▸ b.all_ q hq h1, h⟩
    · rw [bears_nil fun q hq h1 h2 => hk ⟨q, hq, h1, h2⟩] at h
      cases h
  · rintro ⟨n, _, h⟩
    by_cases hk : ∃ q ∈ rs, q.e.k ≠ .unlatch ∧ q.e.n = n
    · obtain ⟨q, hq, h1, rfl⟩ := hk
      exact ⟨q, hq, h⟩
    · unfold overs at h
      rw [bears_nil fun q hq h1 h2 => hk ⟨q, hq, h1, h2⟩] at h
      cases h
def spOwn (K : PySem.W.Frag) (cs : Cs) (xc : Xc) : Sp := fun vs H Q E => ∃ (t : Addr) (ws : List V) (rs : List Rg), vs = [.ref t] ∧ Tp K H t ws ∧ Two (IsR cs H) ws rs ∧ rs.length ≤ 1000 ∧ (crowd rs = false → ∀ H', Same H H' → Q .non H') ∧ (crowd rs = true → ∀ H', Same H H' → E (.ref xc.ladder) none H')
theorem ok_own (T : TLad K mg cs cc xc) : FnAt P w K mg base (L2.CX P w) "need_own" 1 ["rungs"] (spOwn K cs xc) := by
  have e_NoLadder := T.exs.e_ladder
  refine fnAt_okX T.d_own sc_need_own (fun vs H Q E h => ?_) (fun f cdv A outer s H vs Q E hr h => ?_)
  · obtain ⟨t, ws, rs, rfl, _⟩ := h; rfl
  · obtain ⟨t, ws, rs, rfl, ht, hw, hl, q, qx⟩ := h
    have hlen := hw.length
    refine ⟨_, (pss_cons (ps_set (i := 1) sc_need_own.nd rfl (by first | exact Or.inl rfl | exact Or.inr rfl) pe_dnewK)
        (pss_cons (ps_for (L2.passes_of rfl) rfl (pi_tup (pv 0)) (pg_name (i := 2) sc_need_own.nd rfl (by first | exact Or.inl rfl | exact Or.inr rfl)) (pss_one (ps_if (pt_not (pt_val (pe_callB (call_isO T.is_Unlatch) (by rfl) T.z_isinstance (by decide +kernel) (pa_cons (pe_fld (pv 2) rfl) (pa_cons (pe_cls T.c_Unlatch) pa_nil))))) (pss_one (ps_expr (pe_bm PySem.F.plainAttrs_list PySem.F.slot_list_append PySem.F.type_list_append mt_append (pe_dsetd (pv 1) (pe_fld (pe_fld (pv 2) rfl) rfl) (pe_lst pa_nil) (by constructor <;> rfl)) (pa_cons (pe_callB (call_isO T.is_Counting) (by rfl) T.z_isinstance (by decide +kernel) (pa_cons (pe_fld (pv 2) rfl) (pa_cons (pe_cls T.c_Counting) pa_nil))) pa_nil)))) pss_nil)))
        (pss_one (ps_lock (ps_for (L2.passes_of rfl) rfl (pi_items (pv 1)) (pg_tup rfl (pgs_cons (pg_name (i := 3) sc_need_own.nd rfl (by first | exact Or.inl rfl | exact Or.inr rfl)) (pgs_cons (pg_name (i := 4) sc_need_own.nd rfl (by first | exact Or.inl rfl | exact Or.inr rfl)) pgs_nil))) (pss_one (ps_if (PW.pt (pw_and (pt_cmpR op_gt (pe_callB call_len_seq (by rfl) T.z_len PySem.boot_len (pa_cons (pv 4) pa_nil)) pe_int (nomark _)) (pw_and1 (pt_val (pe_callB (cr_any rfl) (by rfl) T.z_any (by decide +kernel) (pa_cons (pv 4) pa_nil)))))) (pss_one (ps_raiseO rfl e_NoLadder (L2.takes_of rfl rfl rfl rfl))) pss_nil))))))), ?_⟩
    walk_at "rd"
    refine fun d nd => ⟨_, rfl, t, rfl, ⟨_, (ht.mono (Same.imm0 (Same.new nd))).seq⟩,
      for_tup (K := K) (a := t) (xs := ws) (fun i σ H' => ∃ (v2 : Option V) (ls : List (Str × Addr)), σ = [some (.ref t), some (.ref d), v2, none, none] ∧ Same H H' ∧ Bear H H' d (rs.take i) ls)
        ⟨none, [], rfl, Same.new nd, ⟨upd_same, by simp, by simp, by simp, by simp, by simp⟩⟩ (fun i σ H' _ ⟨_, _, _, s, _⟩ => (ht.mono (Same.imm0 s)).seq) ?_ ?_⟩
    · rintro i x σ H1 hx ⟨v2, ls, rfl, s1, hB⟩
      obtain ⟨r, hr', x', dx', p', q', rfl, hx', _, hq'⟩ := hw.at hx
      obtain ⟨e, dx2, rfl, he⟩ := hq'
      have hi := List.getElem?_eq_some_iff.mp hr'
      have htk : rs.take (i + 1) = rs.take i ++ [r] := by rw [List.take_succ, hr']; rfl
      rw [htk]
      refine ⟨_, rfl, x', _, dx', _, _, rfl, s1 _ _ hx', T.c_Rung.cl, T.ne_rg, lkR2, e, _, dx2, _, _, rfl, s1 _ _ he, ⟨r.e.k, rfl, rfl⟩, _, rfl, ?_⟩
      by_cases hk : r.e.k = .unlatch
      · rw [decide_eq_true hk]
        exact iteF ⟨_, ls, rfl, s1, hB.pass hk⟩
      · rw [decide_eq_false hk]
        refine iteT ?_
        have hll : ls.length < sizeLine := by
          have := hB.len
          rw [List.length_take] at this
          rw [sizeLine_eq]
          omega
        refine ⟨_, rfl, d, rfl, .inl ⟨_, .inl hB.dict⟩, _, rfl, x', _, dx', _, _, rfl, s1 _ _ hx', T.c_Rung.cl, T.ne_rg, lkR2, e, _, dx2, _, _, rfl, s1 _ _ he, T.enk.ends.cls _, T.enk.ends.nn _, E_name _, Nat.zero_le _, fun z nz => ?_⟩
        have sz : Same H1 (upd H1 z (.lst [])) := Same.new nz
        refine ⟨bk ls, .inr r.e.n, sz _ _ hB.dict, rfl, by rw [bk, List.length_map]; exact hll, fun v hv => ?_, fun hn => ?_⟩
        · obtain ⟨a, ha, rfl⟩ := bk_some hv
          obtain ⟨g1, g2⟩ := hB.more sz hk ha
          refine ⟨.inl ⟨rfl, _, SqL.of g1⟩, _, rfl, x', _, dx', _, _, rfl, sz _ _ (s1 _ _ hx'), T.c_Rung.cl, T.ne_rg, lkR2, e, _, dx2, _, _, rfl, sz _ _ (s1 _ _ he), ⟨r.e.k, rfl, rfl⟩, a, _, _, rfl, rfl, g1, ?_, ?_⟩
          · have := bears_len r.e.n (rs.take i)
            rw [List.length_take] at this
            rw [List.length_map, sizeLine_eq]
            omega
          · exact ⟨_, ls, rfl, Same.mut (s1.trans sz) (hB.at_ _ ha).2.1, g2⟩
        · have zd : z ≠ d := fun q => by rw [q, hB.dict] at nz; cases nz
          have hput : putK (bk ls) (Sum.inr r.e.n : Key) (.ref z) = bk (ls ++ [(r.e.n, z)]) := by
            rw [putK_new _ hn, bk, bk, List.map_append]
            rfl
          rw [hput]
          have hB2 := hB.new s1 hk (bk_none hn) nz (Hd := upd (upd H1 z (.lst [])) d (.dK (bk (ls ++ [(r.e.n, z)])))) (fun c hc => upd_ne hc) upd_same
          have sd : Same H (upd (upd H1 z (.lst [])) d (.dK (bk (ls ++ [(r.e.n, z)])))) := Same.mut (s1.trans sz) nd
          have hz : upd (upd H1 z (.lst [])) d (.dK (bk (ls ++ [(r.e.n, z)]))) z = some (.lst []) := by rw [upd_ne zd, upd_same]
          generalize upd (upd H1 z (.lst [])) d (.dK (bk (ls ++ [(r.e.n, z)]))) = H2 at hB2 sd hz ⊢
          refine ⟨.inl ⟨rfl, _, SqL.of hz⟩, _, rfl, x', _, dx', _, _, rfl, sd _ _ hx', T.c_Rung.cl, T.ne_rg, lkR2, e, _, dx2, _, _, rfl, sd _ _ he, ⟨r.e.k, rfl, rfl⟩, z, _, _, rfl, rfl, hz, by show 0 < sizeLine; rw [sizeLine_eq]; decide, ?_⟩
          exact ⟨_, _, rfl, Same.mut sd (s1.free nz), hB2⟩
    · rintro σ H1 ⟨v2, ls, rfl, s1, hB⟩
      rw [hlen, List.take_length] at hB
      refine ⟨d, _, hB.dict, trivial, fun od => ?_⟩
      have sf : Same H (upd H1 d (.frz od (.dK (bk ls)))) := Same.mut s1 nd
      have hkeep : ∀ p ∈ ls, upd H1 d (.frz od (.dK (bk ls))) p.2 = some (.lst ((bears p.1 rs).map V.bl)) := fun p hp => by
        rw [upd_ne (hB.at_ p hp).2.2]
        exact (hB.at_ p hp).1
      have hfd : upd H1 d (.frz od (.dK (bk ls))) d = some (.frz od (.dK (bk ls))) := upd_same
      generalize upd H1 d (.frz od (.dK (bk ls))) = Hf at sf hkeep hfd ⊢
      refine ⟨_, rfl, d, od, bk ls, rfl, hfd, for_it walk_items (fun i σ H' => ∃ v2 v3 v4 : Option V, σ = [some (.ref t), some (.ref d), v2, v3, v4] ∧ Same Hf H' ∧ ∀ p ∈ ls.take i, overs rs p.1 = false) ⟨_, _, _, rfl, Same.refl _, by simp⟩ (fun i σ H' _ ⟨_, _, _, _, s, _⟩ => s _ _ hfd) ?_ ?_⟩
      · rintro i x σ H2 H3 hi ⟨v2, v3, v4, rfl, s2, hA⟩ ⟨T', y, z, rfl, nT, rfl, hy, hz⟩
        rw [bk, List.length_map] at hi
        have hli : ls[i]? = some ls[i] := List.getElem?_eq_getElem hi
        have hmem : ls[i] ∈ ls := List.getElem_mem hi
        have hkv : (bk ls)[i]? = some (Sum.inr (ls[i]).1, .ref (ls[i]).2) := by rw [bk, List.getElem?_map, hli]; rfl
        simp only [hkv, Option.map_some, Option.some.injEq] at hy hz
        subst hy hz
        have sT : Same H2 (upd H2 T' (.tup [kV (Sum.inr (ls[i]).1 : Key), .ref (ls[i]).2])) := Same.new nT
        have hl2 := sT _ _ (s2 _ _ (hkeep _ hmem))
        refine ⟨T', _, rfl, SqT.of upd_same, rfl, ?_⟩
        walk_at "rd"
        have hA2 : overs rs (ls[i]).1 = false → ∀ p ∈ ls.take (i + 1), overs rs p.1 = false := fun h p hp => by
          rw [List.take_succ, hli] at hp
          rcases List.mem_append.mp hp with hp | hp
          · exact hA p hp
          · rw [List.mem_singleton.mp hp]
            exact h
        refine ⟨_, .inl (SqL.of hl2), ?_⟩
        rw [List.length_map]
        by_cases h1 : (1 : Int) < ((bears (ls[i]).1 rs).length : Int)
        · rw [decide_eq_true h1]
          refine iteT ⟨_, _, rfl, SqL.of hl2, _, rfl, ?_⟩
          have hov : overs rs (ls[i]).1 = (bears (ls[i]).1 rs).any id := by
            unfold overs
            rw [decide_eq_true (by omega), Bool.true_and]
          cases hany : (bears (ls[i]).1 rs).any id with
          | true =>
            refine iteT (qx ?_ _ (sf.trans (s2.trans sT)))
            rw [hB.crowd_eq, List.any_eq_true]
            exact ⟨_, List.mem_map.mpr ⟨_, hmem, rfl⟩, by rw [hov, hany]⟩
          | false => exact iteF ⟨_, _, _, ⟨rfl, rfl, rfl⟩, s2.trans sT, hA2 (by rw [hov, hany])⟩
        · rw [decide_eq_false h1]
          refine iteF ⟨_, _, _, ⟨rfl, rfl, rfl⟩, s2.trans sT, hA2 ?_⟩
          unfold overs
          rw [decide_eq_false (by omega), Bool.false_and]
      · rintro σ H2 ⟨v2, v3, v4, rfl, s2, hA⟩
        rw [bk, List.length_map, List.take_length] at hA
        refine ⟨s2 _ _ hfd, q ?_ _ (Same.mut (sf.trans s2) nd)⟩
        rw [hB.crowd_eq, ← Bool.not_eq_true, List.any_eq_true]
        rintro ⟨n, hn, h⟩
        obtain ⟨p, hp, rfl⟩ := List.mem_map.mp hn
        rw [hA p hp] at h
        cases h
def rTupOf (K : PySem.W.Frag) : List V → Hp → VK → Prop := fun xs H Q => ∃ p, xs = [V.ref p] ∧ ∃ x, (SqL K H p x ∧ ∀ (l : Addr), H l = none → Q (V.ref l) (upd H l (HO.tup x))) ∨ SqT K H p x ∧ Q (V.ref p) H
theorem sq2_tuple {K : PySem.W.Frag} {H0 H : Hp} {i : Addr} {xs : List V} {σ : L2.St} {k : Nat} {Q : VK} (hσ : σ[k]? = some (some (.ref i))) (s : Same H0 H) (h : H0 i = some (.lst xs) ∨ Tp K H0 i xs) (q : ∀ (H' : Hp) (t : Addr), Same H H' → Tp K H' t xs → Q (.ref t) H') :
    tCB (rTupOf K) (tCons (tVar k) tNil) σ H Q := by
  refine ⟨_, hσ, ?_⟩
  show rTupOf K [.ref i] H Q
  rcases h with h | h
  · exact ⟨i, rfl, xs, .inl ⟨SqL.of (s _ _ h), fun t nt => q _ t (Same.new nt) (.inl upd_same)⟩⟩
  · exact ⟨i, rfl, xs, .inr ⟨(h.mono (Same.imm0 s)).seq, q H i (Same.refl H) (h.mono (Same.imm0 s))⟩⟩
theorem cat_tp {K : PySem.W.Frag} {H : Hp} {a b : Addr} {xs ys : List V} {R : V → Hp → Prop} (h1 : Tp K H a xs) (h2 : Tp K H b ys) (hl : xs.length + ys.length ≤ 1000000) (k : ∀ (H' : Hp) (p : Addr), Same H H' → Tp K H' p (xs ++ ys) → R (.ref p) H') : rCatA K (.ref a) (.ref b) H R := by
  refine ⟨a, b, xs, ys, rfl, rfl, h1.seq, h2.seq, line_ge hl, fun e => k H b (Same.refl H) (by rw [e]; exact h2), fun _ e => k H a (Same.refl H) (by rw [e, List.append_nil]; exact h1), fun _ _ p np => k _ p (Same.new np) (.inl upd_same)⟩
theorem filter_snoc {α : Type} (f : α → Bool) {l : List α} {i : Nat} {x : α} (h : l[i]? = some x) : (l.take (i + 1)).filter f = if f x = true then (l.take i).filter f ++ [x] else (l.take i).filter f := by
  rw [List.take_succ, h, List.filter_append]
  simp only [Option.toList, List.filter_cons, List.filter_nil]
  split <;> simp
theorem fair_iff (l : Lad) : l.fair = true ↔ l.ins.length ≤ 6 ∧ l.ins.Nodup ∧ (1 ≤ l.outs.length ∧ l.outs.length ≤ 6) ∧ l.outs.Nodup ∧ (1 ≤ l.rs.length ∧ l.rs.length ≤ 30) ∧ (∀ n ∈ l.ins, n ∉ writ l.rs) ∧ (∀ n ∈ l.outs, n ∈ writ l.rs) ∧ crowd l.rs = false ∧ (writ l.rs).length ≤ 20 := by
  unfold Lad.fair
  simp only [Bool.and_eq_true, decide_eq_true_eq, List.all_eq_true, Bool.not_eq_true', decide_eq_false_iff_not, and_assoc]
def Lad.bad (l : Lad) : Option Xk := if l.named = true then (if l.fair = true then none else some .ladder) else some .name
/-- the arguments of Ladder: lists or tuples -/
def Sq2 (K : PySem.W.Frag) (H : Hp) (a : Addr) (xs : List V) : Prop := H a = some (.lst xs) ∨ Tp K H a xs
def spInitLd (K : PySem.W.Frag) (cs : Cs) (xc : Xc) : Sp := fun vs H Q E => ∃ (H0 : Hp) (x dx i o r : Addr) (ws : List V) (l : Lad), vs = [.ref x, .ref i, .ref o, .ref r] ∧ H x = some (.ins cs.ld dx []) ∧ Same H0 H ∧ H0 x = none ∧
  Sq2 K H0 i (l.ins.map V.str) ∧ Sq2 K H0 o (l.outs.map V.str) ∧ Sq2 K H0 r ws ∧ Two (IsR cs H0) ws l.rs ∧ l.ins.length ≤ 1000 ∧ l.outs.length ≤ 1000 ∧ l.rs.length ≤ 1000 ∧ (∀ n ∈ l.ins ++ l.outs, n.length ≤ 1000000) ∧
  (l.bad = none → ∀ H', Same H0 H' → IsL K cs H' (.ref x) l → Q .non H') ∧ (∀ b, l.bad = some b → ∀ H', Same H0 H' → E (.ref (xc.at b)) none H')
theorem ok_init_ld (T : TLad K mg cs cc xc) : MakAt P w K mg base (L2.CX P w) "Ladder" cs.ld 3 ["self", "inputs", "outputs", "rungs"] (spInitLd K cs xc) := by
  have G_is_name : FnAt P w K mg base CX0 "is_name" 2 _ spIsName := ok_is_name T.enk.ends.names
  have GX_need_between : FnAt P w K mg base (L2.CX P w) "need_between" 1 _ (spBetween K xc) := ok_between T
  have GX_need_single : FnAt P w K mg base (L2.CX P w) "need_single" 1 _ (spSingleN K xc) := ok_single1 T
  have GX_need_own : FnAt P w K mg base (L2.CX P w) "need_own" 1 _ (spOwn K cs xc) := ok_own T
  have G_written_names : DispAt P w K mg base CX0 (fun C => C = cs.ld) "written_names" 1 ["self"] (fun _ => spWrit K cs) := disp_written T
  have e_NoName := T.exs.e_name
  have e_NoLadder := T.exs.e_ladder
  refine makAt_of T.c_Ladder (methAt_okX T.c_Ladder.cl T.i_ld sc_Ladder___init__ (fun vs H Q E h => ?_) (fun f cdv A outer s H vs Q E hr h => ?_))
  · obtain ⟨H0, x, dx, i, o, r, ws, l, rfl, _⟩ := h; rfl
  · obtain ⟨H0, x, dx, i, o, r, ws, l, rfl, hx, s0, n0, hi, ho, hr2, hw, li, lo, lr, ln, q, qx⟩ := h
    have hu := hu_of hr
    refine ⟨_, (pss_cons (ps_fld (pv 0) (pe_callTy call_tuple_of (by rfl) T.z_tuple (show PySem.bootBuiltins "tuple" = some (.type "tuple") by decide +kernel) (pa_cons (pv 1) pa_nil)) rfl)
        (pss_cons (ps_fld (pv 0) (pe_callTy call_tuple_of (by rfl) T.z_tuple (show PySem.bootBuiltins "tuple" = some (.type "tuple") by decide +kernel) (pa_cons (pv 2) pa_nil)) rfl)
        (pss_cons (ps_fld (pv 0) (pe_callTy call_tuple_of (by rfl) T.z_tuple (show PySem.bootBuiltins "tuple" = some (.type "tuple") by decide +kernel) (pa_cons (pv 3) pa_nil)) rfl)
        (pss_cons (ps_for (L2.passes_of rfl) rfl (pi_tup (pe_op op_catA (pe_fld (pv 0) rfl) (pe_fld (pv 0) rfl))) (pg_name (i := 4) sc_Ladder___init__.nd rfl (by first | exact Or.inl rfl | exact Or.inr rfl)) (pss_one (ps_if (pt_not (pt_val (pe_callF G_is_name hr pass0 (pa_cons (pv 4) pa_nil)))) (pss_one (ps_raiseO rfl e_NoName (L2.takes_of rfl rfl rfl rfl))) pss_nil)))
        (pss_cons (ps_expr (pe_callF GX_need_between hr (passX (L2.takes_of rfl rfl rfl rfl)) (pa_cons (pe_fld (pv 0) rfl) (pa_cons pe_int (pa_cons (pe_gc T.g_MOST_NAMES) pa_nil)))))
        (pss_cons (ps_expr (pe_callF GX_need_single hr (passX (L2.takes_of rfl rfl rfl rfl)) (pa_cons (pe_fld (pv 0) rfl) pa_nil)))
        (pss_cons (ps_expr (pe_callF GX_need_between hr (passX (L2.takes_of rfl rfl rfl rfl)) (pa_cons (pe_fld (pv 0) rfl) (pa_cons pe_int (pa_cons (pe_gc T.g_MOST_NAMES) pa_nil)))))
        (pss_cons (ps_expr (pe_callF GX_need_single hr (passX (L2.takes_of rfl rfl rfl rfl)) (pa_cons (pe_fld (pv 0) rfl) pa_nil)))
        (pss_cons (ps_expr (pe_callF GX_need_between hr (passX (L2.takes_of rfl rfl rfl rfl)) (pa_cons (pe_fld (pv 0) rfl) (pa_cons pe_int (pa_cons (pe_gc T.g_MOST_RUNGS) pa_nil)))))
        (pss_cons (ps_set (i := 5) sc_Ladder___init__.nd rfl (by first | exact Or.inl rfl | exact Or.inr rfl) (pe_methD0 G_written_names hr pass0 (pv 0)))
        (pss_cons (ps_if (pt_cmpR (op_neE hr.units0) (pe_lc (own := [("name", 4)]) (g := gName 4) rfl sc_Ladder___init__.nd (pi_tup (pe_fld (pv 0) rfl)) (blkOk_by (own := [("name", 4)]) (N := ["self", "inputs", "outputs", "rungs", "name", "names"]) (sc := defScope s_Ladder___init__) (by decide +kernel)) (fun _ _ _ _ _ => pg_name (i := 4) sc_Ladder___init__.nd rfl (Or.inl rfl)) (fun _ _ _ _ _ => (pts_one (pt_cmpR (op_inK K rfl) (pv 4) (pv 5) rfl))) (fun _ _ _ _ _ => (pv 4))) (pe_lst pa_nil) (nomark _)) (pss_one (ps_raiseO rfl e_NoLadder (L2.takes_of rfl rfl rfl rfl))) pss_nil)
        (pss_cons (ps_if (pt_cmpR (op_neE hr.units0) (pe_lc (own := [("name", 4)]) (g := gName 4) rfl sc_Ladder___init__.nd (pi_tup (pe_fld (pv 0) rfl)) (blkOk_by (own := [("name", 4)]) (N := ["self", "inputs", "outputs", "rungs", "name", "names"]) (sc := defScope s_Ladder___init__) (by decide +kernel)) (fun _ _ _ _ _ => pg_name (i := 4) sc_Ladder___init__.nd rfl (Or.inl rfl)) (fun _ _ _ _ _ => (pts_one (pt_cmpR (op_notInK K rfl) (pv 4) (pv 5) rfl))) (fun _ _ _ _ _ => (pv 4))) (pe_lst pa_nil) (nomark _)) (pss_one (ps_raiseO rfl e_NoLadder (L2.takes_of rfl rfl rfl rfl))) pss_nil)
        (pss_cons (ps_expr (pe_callF GX_need_own hr (passX (L2.takes_of rfl rfl rfl rfl)) (pa_cons (pe_fld (pv 0) rfl) pa_nil)))
        (pss_one (ps_expr (pe_callF GX_need_between hr (passX (L2.takes_of rfl rfl rfl rfl)) (pa_cons (pv 5) (pa_cons pe_int (pa_cons (pe_gc T.g_MOST_WRITTEN) pa_nil))))))))))))))))))), ?_⟩
    walk_at "rd"
    refine sq2_tuple (k := 1) (σ := [some (.ref x), some (.ref i), some (.ref o), some (.ref r), none, none]) rfl s0 hi fun Ha ti sa ta => ?_
    have hxa := sa _ _ hx
    refine ⟨_, rfl, x, _, dx, [], rfl, hxa, T.c_Ladder.cl, T.ni_ld, (by show 0 < 1000; decide), ?_⟩
    have m1 : Imm (fun _ => False) Ha (upd Ha x (.ins cs.ld dx (putF "inputs" (.ref ti) []))) := Imm.mut hxa id
    have s1 : Same H0 (upd Ha x (.ins cs.ld dx (putF "inputs" (.ref ti) []))) := Same.mut (s0.trans sa) n0
    have ta1 := ta.mono m1
    have hx1 : upd Ha x (.ins cs.ld dx (putF "inputs" (.ref ti) [])) x = some (.ins cs.ld dx [("inputs", .ref ti)]) := upd_same
    generalize upd Ha x (.ins cs.ld dx (putF "inputs" (.ref ti) [])) = H1 at s1 ta1 hx1 ⊢
    walk_at "rd"
    refine sq2_tuple (k := 2) (σ := [some (.ref x), some (.ref i), some (.ref o), some (.ref r), none, none]) rfl s1 ho fun Hb tt sb tb => ?_
    have hxb := sb _ _ hx1
    refine ⟨_, rfl, x, _, dx, _, rfl, hxb, T.c_Ladder.cl, T.no_ld, (by show 1 < 1000; decide), ?_⟩
    have m2 : Imm (fun _ => False) Hb (upd Hb x (.ins cs.ld dx (putF "outputs" (.ref tt) [("inputs", .ref ti)]))) := Imm.mut hxb id
    have s2 : Same H0 (upd Hb x (.ins cs.ld dx (putF "outputs" (.ref tt) [("inputs", .ref ti)]))) := Same.mut (s1.trans sb) n0
    have ta2 := (ta1.mono (Same.imm0 sb)).mono m2
    have tb2 := tb.mono m2
    have hx2 : upd Hb x (.ins cs.ld dx (putF "outputs" (.ref tt) [("inputs", .ref ti)])) x = some (.ins cs.ld dx [("inputs", .ref ti), ("outputs", .ref tt)]) := upd_same
    generalize upd Hb x (.ins cs.ld dx (putF "outputs" (.ref tt) [("inputs", .ref ti)])) = H2 at s2 ta2 tb2 hx2 ⊢
    walk_at "rd"
    refine sq2_tuple (k := 3) (σ := [some (.ref x), some (.ref i), some (.ref o), some (.ref r), none, none]) rfl s2 hr2 fun Hc tr sc tc => ?_
    have hxc := sc _ _ hx2
    refine ⟨_, rfl, x, _, dx, _, rfl, hxc, T.c_Ladder.cl, T.nr_ld, (by show 2 < 1000; decide), ?_⟩
    have m3 : Imm (fun _ => False) Hc (upd Hc x (.ins cs.ld dx (putF "rungs" (.ref tr) [("inputs", .ref ti), ("outputs", .ref tt)]))) := Imm.mut hxc id
    have s3 : Same H0 (upd Hc x (.ins cs.ld dx (putF "rungs" (.ref tr) [("inputs", .ref ti), ("outputs", .ref tt)]))) := Same.mut (s2.trans sc) n0
    have t1 := (ta2.mono (Same.imm0 sc)).mono m3
    have t2 := (tb2.mono (Same.imm0 sc)).mono m3
    have t3 := tc.mono m3
    have hx3 : upd Hc x (.ins cs.ld dx (putF "rungs" (.ref tr) [("inputs", .ref ti), ("outputs", .ref tt)])) x = some (.ins cs.ld dx [("inputs", .ref ti), ("outputs", .ref tt), ("rungs", .ref tr)]) := upd_same
    generalize upd Hc x (.ins cs.ld dx (putF "rungs" (.ref tr) [("inputs", .ref ti), ("outputs", .ref tt)])) = H3 at s3 t1 t2 t3 hx3 ⊢
    clear ta ta1 ta2 tb tb2 tc m1 m2 m3 hx hxa hxb hxc hx1 hx2 s1 s2 sa sb sc hi ho hr2
    have w3 : Two (IsR cs H3) ws l.rs := hw.mono fun _ _ z => z.mono (Same.imm s3)
    have isl : IsL K cs H3 (.ref x) l := ⟨x, dx, ti, tt, tr, ws, rfl, hx3, t1, t2, t3, w3⟩
    walk_at "rd"
    refine ⟨_, rfl, x, _, dx, _, _, rfl, hx3, T.c_Ladder.cl, T.ni_ld, lkL1, _, rfl, x, _, dx, _, _, rfl, hx3, T.c_Ladder.cl, T.no_ld, lkL2, cat_tp t1 t2 (by rw [List.length_map, List.length_map]; omega) fun H4 p4 s4 tp4 => ?_⟩
    rw [← List.map_append] at tp4
    refine ⟨p4, rfl, ⟨_, tp4.seq⟩, for_tup (K := K) (a := p4) (xs := (l.ins ++ l.outs).map V.str) (fun i' σ H' => ∃ v4 : Option V, σ = [some (.ref x), some (.ref i), some (.ref o), some (.ref r), v4, none] ∧ Same H3 H' ∧ Tp K H' p4 ((l.ins ++ l.outs).map V.str) ∧ ∀ n ∈ (l.ins ++ l.outs).take i', isName n = true) ⟨none, rfl, s4, tp4, by simp⟩ (fun i' σ H' _ ⟨_, _, _, tp, _⟩ => tp.seq) ?_ ?_⟩
    · rintro i' y σ H5 hy ⟨v4, rfl, s5, tp5, hA⟩
      rw [List.getElem?_map] at hy
      obtain ⟨n, hn, rfl⟩ := Option.map_eq_some_iff.mp hy
      have hm := List.mem_of_getElem? hn
      walk_at "rd"
      refine ⟨n, rfl, line_ge (ln n hm), ?_⟩
      cases hnn : isName n with
      | false =>
        refine ⟨false, rfl, iteT (qx .name ?_ _ (s3.trans s5))⟩
        unfold Lad.bad Lad.named
        rw [if_neg]
        intro hall
        rw [List.all_eq_true.mp hall n hm] at hnn
        cases hnn
      | true =>
        refine ⟨true, rfl, iteF ⟨s5, tp5, fun z hz => ?_⟩⟩
        rw [List.take_succ, hn] at hz
        rcases List.mem_append.mp hz with hz | hz
        · exact hA z hz
        · rw [List.mem_singleton.mp hz]
          exact hnn
    rintro σ H5 ⟨v4, rfl, s5, tp5, hA⟩
    rw [List.length_map, List.take_length] at hA
    have hnamed : l.named = true := List.all_eq_true.mpr hA
    have bl : ¬ l.fair = true → l.bad = some .ladder := fun hf => by
      unfold Lad.bad
      rw [if_pos hnamed, if_neg hf]
    have fi := fair_iff l
    walk_at "rd"
    have hx5 := s5 _ _ hx3
    have u1 := t1.mono (Same.imm0 s5)
    have u2 := t2.mono (Same.imm0 s5)
    have u3 := t3.mono (Same.imm0 s5)
    have isl5 := isl.mono (Same.imm s5)
    have w5 : Two (IsR cs H5) ws l.rs := w3.mono fun _ _ z => z.mono (Same.imm s5)
    have s05 := s3.trans s5
    have hwl := w3.length
    clear s3 s5 s4 t1 t2 t3 tp4 tp5 hA hx3 w3 isl hw
    refine ⟨_, rfl, x, _, dx, _, _, rfl, hx5, T.c_Ladder.cl, T.ni_ld, lkL1, ti, _, 0, 6, rfl, u1.seq, fun g1 => ?_, fun h1 => qx .ladder (bl fun hf => h1 (by obtain ⟨f1, _⟩ := fi.mp hf; rw [List.length_map]; omega)) _ s05⟩
    refine ⟨_, rfl, x, _, dx, _, _, rfl, hx5, T.c_Ladder.cl, T.ni_ld, lkL1, ti, l.ins, rfl, u1.seq, li, fun g2 => ?_, fun h1 => qx .ladder (bl fun hf => h1 (fi.mp hf).2.1) _ s05⟩
    refine ⟨_, rfl, x, _, dx, _, _, rfl, hx5, T.c_Ladder.cl, T.no_ld, lkL2, tt, _, 1, 6, rfl, u2.seq, fun g3 => ?_, fun h1 => qx .ladder (bl fun hf => h1 (by obtain ⟨_, _, f1, _⟩ := fi.mp hf; rw [List.length_map]; omega)) _ s05⟩
    refine ⟨_, rfl, x, _, dx, _, _, rfl, hx5, T.c_Ladder.cl, T.no_ld, lkL2, tt, l.outs, rfl, u2.seq, lo, fun g4 => ?_, fun h1 => qx .ladder (bl fun hf => h1 (fi.mp hf).2.2.2.1) _ s05⟩
    refine ⟨_, rfl, x, _, dx, _, _, rfl, hx5, T.c_Ladder.cl, T.nr_ld, lkL3, tr, _, 1, 30, rfl, u3.seq, fun g5 => ?_, fun h1 => qx .ladder (bl fun hf => h1 (by obtain ⟨_, _, _, _, f1, _⟩ := fi.mp hf; rw [hwl]; omega)) _ s05⟩
    rw [List.length_map] at g1 g3
    rw [hwl] at g5
    refine ⟨_, rfl, x, _, dx, _, rfl, hx5, rfl, lkLw, .ref x, l, rfl, isl5, lr, fun H6 p6 s6 h6 => ?_⟩
    have hx6 := s6 _ _ hx5
    have v1 := u1.mono (Same.imm0 s6)
    have wl := writ_len l.rs
    refine ⟨_, rfl, x, _, dx, _, _, rfl, hx6, T.c_Ladder.cl, T.ni_ld, lkL1, ti, rfl, ⟨_, v1.seq⟩, fun D nD => lc_tup (K := K) (a := ti) (xs := l.ins.map V.str) (fun j H' => Same H6 H' ∧ H' D = some (.lst (((l.ins.take j).filter fun n => decide (n ∈ writ l.rs)).map V.str))) ⟨Same.new nD, upd_same⟩ (fun j H' _ q => (v1.mono (Same.imm0 q.1)).seq) ?_ ?_⟩
    · rintro j y H7 hy ⟨s7, hD⟩
      rw [List.getElem?_map] at hy
      obtain ⟨n, hn, rfl⟩ := Option.map_eq_some_iff.mp hy
      rw [filter_snoc _ hn]
      refine ⟨rfl, _, rfl, _, rfl, p6, _, rfl, .inr (SqT.of (s7 _ _ h6)), rfl, all_flatS _, _, rfl, ?_⟩
      have hfl := List.length_filter_le (fun n => decide (n ∈ writ l.rs)) (l.ins.take j)
      rw [List.length_take] at hfl
      rw [if_neg Bool.false_ne_true, inV_strs]
      by_cases hm : n ∈ writ l.rs
      · rw [decide_eq_true hm]
        refine iteT ⟨_, rfl, _, hD, by rw [List.length_map, sizeLine_eq]; omega, Same.mut s7 nD, ?_⟩
        rw [upd_same, if_pos rfl, List.map_append]
        rfl
      · rw [decide_eq_false hm]
        exact iteF ⟨s7, by rw [if_neg Bool.false_ne_true]; exact hD⟩
    rintro H7 ⟨s7, hD⟩
    rw [List.length_map, List.take_length] at hD
    refine ⟨Nat.zero_le _, fun z nz => ⟨D, z, _, rfl, rfl, SqL.of (Same.new nz _ _ hD), SqL.of upd_same, _, rfl, ?_⟩⟩
    have s8 : Same H6 (upd H7 z (.lst [])) := s7.trans (Same.new nz)
    have g6 : (List.map V.str (l.ins.filter fun n => decide (n ∈ writ l.rs))).isEmpty = decide (∀ n ∈ l.ins, n ∉ writ l.rs) := by
      rw [Bool.eq_iff_iff, decide_eq_true_eq, List.isEmpty_iff, List.map_eq_nil_iff, List.filter_eq_nil_iff]
      simp only [decide_eq_true_eq]
    rw [g6]
    by_cases hin : ∀ n ∈ l.ins, n ∉ writ l.rs
    case neg =>
      rw [decide_eq_false hin]
      exact iteT (qx .ladder (bl fun hf => hin (fi.mp hf).2.2.2.2.2.1) _ (s05.trans (s6.trans s8)))
    rw [decide_eq_true hin]
    refine iteF ?_
    generalize upd H7 z (.lst []) = H8 at s8 ⊢
    clear hD nz s7
    have hx8 := s8 _ _ hx6
    have v2 := u2.mono (Same.imm0 (s6.trans s8))
    have h8 := s8 _ _ h6
    refine ⟨_, rfl, x, _, dx, _, _, rfl, hx8, T.c_Ladder.cl, T.no_ld, lkL2, tt, rfl, ⟨_, v2.seq⟩, fun D2 nD2 => lc_tup (K := K) (a := tt) (xs := l.outs.map V.str) (fun j H' => Same H8 H' ∧ H' D2 = some (.lst (((l.outs.take j).filter fun n => !decide (n ∈ writ l.rs)).map V.str))) ⟨Same.new nD2, upd_same⟩ (fun j H' _ q => (v2.mono (Same.imm0 q.1)).seq) ?_ ?_⟩
    · rintro j y H9 hy ⟨s9, hD⟩
      rw [List.getElem?_map] at hy
      obtain ⟨n, hn, rfl⟩ := Option.map_eq_some_iff.mp hy
      rw [filter_snoc _ hn]
      refine ⟨rfl, _, rfl, _, rfl, p6, _, rfl, .inr (SqT.of (s9 _ _ h8)), rfl, all_flatS _, _, rfl, ?_⟩
      have hfl := List.length_filter_le (fun n => !decide (n ∈ writ l.rs)) (l.outs.take j)
      rw [List.length_take] at hfl
      rw [if_pos rfl, inV_strs]
      by_cases hm : n ∈ writ l.rs
      · rw [decide_eq_true hm]
        exact iteF ⟨s9, hD⟩
      · rw [decide_eq_false hm]
        refine iteT ⟨_, rfl, _, hD, by rw [List.length_map, sizeLine_eq]; omega, Same.mut s9 nD2, ?_⟩
        rw [upd_same]
        show _ = some (HO.lst (List.map V.str (List.filter (fun n => !decide (n ∈ writ l.rs)) (List.take j l.outs) ++ [n])))
        rw [List.map_append]
        rfl
    rintro H9 ⟨s9, hD⟩
    rw [List.length_map, List.take_length] at hD
    refine ⟨Nat.zero_le _, fun z nz => ⟨D2, z, _, rfl, rfl, SqL.of (Same.new nz _ _ hD), SqL.of upd_same, _, rfl, ?_⟩⟩
    have s10 : Same H8 (upd H9 z (.lst [])) := s9.trans (Same.new nz)
    have g7 : (List.map V.str (l.outs.filter fun n => !decide (n ∈ writ l.rs))).isEmpty = decide (∀ n ∈ l.outs, n ∈ writ l.rs) := by
      rw [Bool.eq_iff_iff, decide_eq_true_eq, List.isEmpty_iff, List.map_eq_nil_iff, List.filter_eq_nil_iff]
      simp only [Bool.not_eq_true', decide_eq_false_iff_not, Decidable.not_not]
    rw [g7]
    by_cases hout : ∀ n ∈ l.outs, n ∈ writ l.rs
    case neg =>
      rw [decide_eq_false hout]
      exact iteT (qx .ladder (bl fun hf => hout (fi.mp hf).2.2.2.2.2.2.1) _ (s05.trans (s6.trans (s8.trans s10))))
    rw [decide_eq_true hout]
    refine iteF ?_
    have s5z : Same H5 (upd H9 z (.lst [])) := s6.trans (s8.trans s10)
    generalize upd H9 z (.lst []) = Hz at s10 s5z ⊢
    have hxz := s5z _ _ hx5
    have hpz := (s8.trans s10) _ _ h6
    refine ⟨_, rfl, x, _, dx, _, _, rfl, hxz, T.c_Ladder.cl, T.nr_ld, lkL3, tr, ws, l.rs, rfl, u3.mono (Same.imm0 s5z), w5.mono (fun _ _ q => q.mono (Same.imm s5z)), lr, fun hcr Hq sq => ?_, fun hcr Hq sq => qx .ladder (bl fun hf => by rw [(fi.mp hf).2.2.2.2.2.2.2.1] at hcr; cases hcr) _ (s05.trans (s5z.trans sq))⟩
    have hrs : l.rs ≠ [] := by intro e; rw [e] at g5; simp at g5
    have wp := writ_pos hrs
    refine ⟨p6, _, 1, 20, rfl, SqT.of (sq _ _ hpz), fun g9 => ?_, fun h1 => qx .ladder (bl fun hf => h1 (by have := (fi.mp hf).2.2.2.2.2.2.2.2; rw [List.length_map]; omega)) _ (s05.trans (s5z.trans sq))⟩
    rw [List.length_map] at g9
    have hfair : l.fair = true := fi.mpr ⟨by omega, g2, by omega, g4, by omega, hin, hout, hcr, by omega⟩
    refine q ?_ _ (s05.trans (s5z.trans sq)) (isl5.mono (Same.imm (s5z.trans sq)))
    unfold Lad.bad
    rw [if_pos hnamed, if_pos hfair]
end

--%% N7
/-! ## works: the plain side -/
structure Ws where
  bits : List (Str × Bool)
  cnt : List (Str × Int)
  seen : List (Str × Bool)
def Ws.cntOf (w : Ws) (n : Str) : Int := (getL w.cnt n).getD 0
def Ws.seenOf (w : Ws) (n : Str) : Bool := (getL w.seen n).getD false
def Ws.bitOf (w : Ws) (n : Str) : Bool := (getL w.bits n).getD false
def cnt0 (rs : List Rg) : List (Str × Int) := rs.foldl (fun l r => if r.e.k.counts = true then putL l r.e.n 0 else l) []
def seen0 (rs : List Rg) : List (Str × Bool) := rs.foldl (fun l r => if r.e.k = .counter then putL l r.e.n false else l) []
def wNew (l : Lad) : Ws := ⟨(l.ins ++ writ l.rs).map fun n => (n, false), cnt0 l.rs, seen0 l.rs⟩
/-- what an end does -/
def act (w : Ws) (e : EndC) (h : Bool) : Ws := match e.k with
  | .coil => ⟨putL w.bits e.n h, w.cnt, w.seen⟩
  | .latch => if h = true then ⟨putL w.bits e.n true, w.cnt, w.seen⟩ else w
  | .unlatch => if h = true then ⟨putL w.bits e.n false, if e.n ∈ keysL w.cnt then putL w.cnt e.n 0 else w.cnt, w.seen⟩ else w
  | .timer => ⟨putL w.bits e.n (decide ((if h = true then min (w.cntOf e.n + 1) e.m else 0) = e.m)), putL w.cnt e.n (if h = true then min (w.cntOf e.n + 1) e.m else 0), w.seen⟩
  | .counter => ⟨putL w.bits e.n (decide ((if (h && !w.seenOf e.n) = true then min (w.cntOf e.n + 1) e.m else w.cntOf e.n) = e.m)), if (h && !w.seenOf e.n) = true then putL w.cnt e.n (min (w.cntOf e.n + 1) e.m) else w.cnt, putL w.seen e.n h⟩
def Ws.im (w : Ws) : Im := fun n => w.bitOf n
def putRow (b : List (Str × Bool)) (r : List (Str × Bool)) : List (Str × Bool) := r.foldl (fun b p => putL b p.1 p.2) b
/-- the rungs gone through: what is kept, and which held -/
def goRungs (w : Ws) (rs : List Rg) : Ws × List Bool := rs.foldl (fun s r => (act s.1 r.e (r.c.holds s.1.im), s.2 ++ [r.c.holds s.1.im])) (w, [])
def scanP (l : Lad) (w : Ws) (row : List Bool) : Ws × List Bool := goRungs ⟨putRow w.bits (l.ins.zip row), w.cnt, w.seen⟩ l.rs
theorem goRungs_snoc (w : Ws) (rs : List Rg) (r : Rg) : goRungs w (rs ++ [r]) = (act (goRungs w rs).1 r.e (r.c.holds (goRungs w rs).1.im), (goRungs w rs).2 ++ [r.c.holds (goRungs w rs).1.im]) := by
  unfold goRungs
  rw [List.foldl_append]
  rfl
theorem putRow_snoc (b : List (Str × Bool)) (r : List (Str × Bool)) (p : Str × Bool) : putRow b (r ++ [p]) = putL (putRow b r) p.1 p.2 := by
  unfold putRow
  rw [List.foldl_append]
  rfl
theorem cnt0_snoc (rs : List Rg) (r : Rg) : cnt0 (rs ++ [r]) = if r.e.k.counts = true then putL (cnt0 rs) r.e.n 0 else cnt0 rs := by
  unfold cnt0
  rw [List.foldl_append]
  rfl
theorem seen0_snoc (rs : List Rg) (r : Rg) : seen0 (rs ++ [r]) = if r.e.k = .counter then putL (seen0 rs) r.e.n false else seen0 rs := by
  unfold seen0
  rw [List.foldl_append]
  rfl
theorem cnt0_len (rs : List Rg) : (cnt0 rs).length ≤ rs.length := writ_ind (p := fun rs => (cnt0 rs).length ≤ rs.length) (by simp [cnt0]) (fun rs r ih => by
  rw [cnt0_snoc, List.length_append]
  have := put_le (l := cnt0 rs) (n := r.e.n) (v := 0)
  split <;> simp <;> omega) rs
theorem seen0_len (rs : List Rg) : (seen0 rs).length ≤ rs.length := writ_ind (p := fun rs => (seen0 rs).length ≤ rs.length) (by simp [seen0]) (fun rs r ih => by
  rw [seen0_snoc, List.length_append]
  have := put_le (l := seen0 rs) (n := r.e.n) (v := false)
  split <;> simp <;> omega) rs
theorem keysL_put {α : Type} {l : List (Str × α)} {n m : Str} {v : α} : m ∈ keysL (putL l n v) ↔ m ∈ keysL l ∨ m = n := by
  by_cases h : n ∈ keysL l
  · rw [keys_put h]
    exact ⟨.inl, fun q => q.elim id fun e => e ▸ h⟩
  · rw [keys_put_new h]
    simp
theorem cnt0_keys (n : Str) (rs : List Rg) : n ∈ keysL (cnt0 rs) ↔ ∃ r ∈ rs, r.e.k.counts = true ∧ r.e.n = n := by
  refine writ_ind (p := fun rs => n ∈ keysL (cnt0 rs) ↔ ∃ r ∈ rs, r.e.k.counts = true ∧ r.e.n = n) (by simp [cnt0, keysL]) (fun rs r ih => ?_) rs
  rw [cnt0_snoc]
  by_cases h : r.e.k.counts = true
  · rw [if_pos h, keysL_put, ih]
    constructor
    · rintro (⟨q, hq, h1⟩ | rfl)
      · exact ⟨q, List.mem_append_left _ hq, h1⟩
      · exact ⟨r, by simp, h, rfl⟩
    · rintro ⟨q, hq, h1, h2⟩
      rcases List.mem_append.mp hq with hq | hq
      · exact .inl ⟨q, hq, h1, h2⟩
      · rw [List.mem_singleton.mp hq] at h2
        exact .inr h2.symm
  · rw [if_neg h, ih]
    constructor
    · rintro ⟨q, hq, h1⟩
      exact ⟨q, List.mem_append_left _ hq, h1⟩
    · rintro ⟨q, hq, h1, h2⟩
      rcases List.mem_append.mp hq with hq | hq
      · exact ⟨q, hq, h1, h2⟩
      · rw [List.mem_singleton.mp hq] at h1
        exact absurd h1 h
theorem seen0_keys (n : Str) (rs : List Rg) : n ∈ keysL (seen0 rs) ↔ ∃ r ∈ rs, r.e.k = .counter ∧ r.e.n = n := by
  refine writ_ind (p := fun rs => n ∈ keysL (seen0 rs) ↔ ∃ r ∈ rs, r.e.k = .counter ∧ r.e.n = n) (by simp [seen0, keysL]) (fun rs r ih => ?_) rs
  rw [seen0_snoc]
  by_cases h : r.e.k = .counter
  · rw [if_pos h, keysL_put, ih]
    constructor
    · rintro (⟨q, hq, h1⟩ | rfl)
      · exact ⟨q, List.mem_append_left _ hq, h1⟩
      · exact ⟨r, by simp, h, rfl⟩
    · rintro ⟨q, hq, h1, h2⟩
      rcases List.mem_append.mp hq with hq | hq
      · exact .inl ⟨q, hq, h1, h2⟩
      · rw [List.mem_singleton.mp hq] at h2
        exact .inr h2.symm
  · rw [if_neg h, ih]
    constructor
    · rintro ⟨q, hq, h1⟩
      exact ⟨q, List.mem_append_left _ hq, h1⟩
    · rintro ⟨q, hq, h1, h2⟩
      rcases List.mem_append.mp hq with hq | hq
      · exact ⟨q, hq, h1, h2⟩
      · rw [List.mem_singleton.mp hq] at h1
        exact absurd h1 h
/-- the same names as at first -/
structure Fits (l : Lad) (w : Ws) : Prop where
  kb : keysL w.bits = l.ins ++ writ l.rs
  kc : keysL w.cnt = keysL (cnt0 l.rs)
  ks : keysL w.seen = keysL (seen0 l.rs)
theorem fits_new (l : Lad) : Fits l (wNew l) := ⟨by simp [keysL, wNew, Function.comp_def], rfl, rfl⟩
section
variable {l : Lad} {w : Ws} {r : Rg}
theorem Fits.bit (f : Fits l w) (h : r ∈ l.rs) : r.e.n ∈ keysL w.bits := by
  rw [f.kb]
  exact List.mem_append_right _ ((writ_mem _).mpr ⟨r, h, rfl⟩)
theorem Fits.cnt (f : Fits l w) (h : r ∈ l.rs) (hk : r.e.k.counts = true) : r.e.n ∈ keysL w.cnt := by
  rw [f.kc]
  exact (cnt0_keys _ _).mpr ⟨r, h, hk, rfl⟩
theorem Fits.seen (f : Fits l w) (h : r ∈ l.rs) (hk : r.e.k = .counter) : r.e.n ∈ keysL w.seen := by
  rw [f.ks]
  exact (seen0_keys _ _).mpr ⟨r, h, hk, rfl⟩
theorem Fits.act (f : Fits l w) (h : r ∈ l.rs) (b : Bool) : Fits l (act w r.e b) := by
  have hb := f.bit h
  unfold My.act
  cases hk : r.e.k with
  | coil => exact ⟨by rw [keys_put hb]; exact f.kb, f.kc, f.ks⟩
  | latch =>
    simp only
    split
    · exact ⟨by rw [keys_put hb]; exact f.kb, f.kc, f.ks⟩
    · exact f
  | unlatch =>
    simp only
    split
    · refine ⟨by rw [keys_put hb]; exact f.kb, ?_, f.ks⟩
      simp only
      split
      · rename_i hc
        rw [keys_put hc]
        exact f.kc
      · exact f.kc
    · exact f
  | timer =>
    have hc := f.cnt h (by rw [hk]; rfl)
    exact ⟨by rw [keys_put hb]; exact f.kb, by rw [keys_put hc]; exact f.kc, f.ks⟩
  | counter =>
    have hc := f.cnt h (by rw [hk]; rfl)
    have hs := f.seen h hk
    refine ⟨by rw [keys_put hb]; exact f.kb, ?_, by rw [keys_put hs]; exact f.ks⟩
    simp only
    split
    · rw [keys_put hc]
      exact f.kc
    · exact f.kc
theorem Fits.bits_len (f : Fits l w) : w.bits.length = l.ins.length + (writ l.rs).length := by
  have := congrArg List.length f.kb
  rw [len_keys, List.length_append] at this
  exact this
theorem Fits.cnt_len (f : Fits l w) : w.cnt.length ≤ l.rs.length := by
  have := congrArg List.length f.kc
  rw [len_keys, len_keys] at this
  have := cnt0_len l.rs
  omega
theorem Fits.seen_len (f : Fits l w) : w.seen.length ≤ l.rs.length := by
  have := congrArg List.length f.ks
  rw [len_keys, len_keys] at this
  have := seen0_len l.rs
  omega
theorem putRow_keys : ∀ (b : List (Str × Bool)) (r : List (Str × Bool)), (∀ p ∈ r, p.1 ∈ keysL b) → keysL (putRow b r) = keysL b := by
  intro b r
  induction r generalizing b with
  | nil => intro _; rfl
  | cons p r ih =>
    intro h
    have h1 := h p List.mem_cons_self
    show keysL (putRow (putL b p.1 p.2) r) = _
    rw [ih _ (fun q hq => by rw [keys_put h1]; exact h q (List.mem_cons_of_mem _ hq)), keys_put h1]
theorem Fits.row (f : Fits l w) (row : List Bool) : Fits l ⟨putRow w.bits (l.ins.zip row), w.cnt, w.seen⟩ := by
  refine ⟨?_, f.kc, f.ks⟩
  show keysL (putRow w.bits _) = _
  rw [putRow_keys]
  · exact f.kb
  · intro p hp
    rw [f.kb]
    exact List.mem_append_left _ (List.of_mem_zip hp).1
theorem Fits.go (f : Fits l w) : ∀ i, Fits l (goRungs w (l.rs.take i)).1
  | 0 => f
  | i + 1 => by
    by_cases h : i < l.rs.length
    · rw [List.take_succ, List.getElem?_eq_getElem h]
      show Fits l (goRungs w (l.rs.take i ++ [l.rs[i]])).1
      rw [goRungs_snoc]
      exact (f.go i).act (List.getElem_mem h) _
    · rw [List.take_of_length_le (by omega)]
      have := f.go i
      rw [List.take_of_length_le (by omega)] at this
      exact this
theorem Fits.scan (f : Fits l w) (row : List Bool) : Fits l (scanP l w row).1 := by
  have := (f.row row).go l.rs.length
  rw [List.take_length] at this
  exact this
theorem goRungs_len (w : Ws) (rs : List Rg) : (goRungs w rs).2.length = rs.length := writ_ind (p := fun rs => (goRungs w rs).2.length = rs.length) rfl (fun rs r ih => by rw [goRungs_snoc, List.length_append, List.length_append, ih]; rfl) rs
theorem scanP_len (l : Lad) (w : Ws) (row : List Bool) : (scanP l w row).2.length = l.rs.length := goRungs_len _ _
end
/-! ## three dicts -/
structure Tri (H : Hp) (b c s : Addr) (w : Ws) : Prop where
  hb : H b = some (.dK (dL V.bl w.bits))
  hc : H c = some (.dK (dL V.int w.cnt))
  hs : H s = some (.dK (dL V.bl w.seen))
  bc : b ≠ c
  bs : b ≠ s
  cs : c ≠ s
def But3 (b c s : Addr) (H H' : Hp) : Prop := ∀ a o, H a = some o → a ≠ b → a ≠ c → a ≠ s → H' a = some o
section
variable {H H' H2 : Hp} {b c s p : Addr} {w : Ws} {o : HO}
theorem But3.refl (H : Hp) : But3 b c s H H := fun _ _ e _ _ _ => e
theorem But3.trans (h : But3 b c s H H') (k : But3 b c s H' H2) : But3 b c s H H2 := fun a o e n1 n2 n3 => k a o (h a o e n1 n2 n3) n1 n2 n3
theorem Same.but3 (h : Same H H') : But3 b c s H H' := fun a o e _ _ _ => h a o e
theorem But3.ub : But3 b c s H (upd H b o) := fun a o e n1 _ _ => by rw [upd_ne n1]; exact e
theorem But3.uc : But3 b c s H (upd H c o) := fun a o e _ n2 _ => by rw [upd_ne n2]; exact e
theorem But3.us : But3 b c s H (upd H s o) := fun a o e _ _ n3 => by rw [upd_ne n3]; exact e
theorem Tri.keep (t : Tri H b c s w) (h : Same H H') : Tri H' b c s w := ⟨h _ _ t.hb, h _ _ t.hc, h _ _ t.hs, t.bc, t.bs, t.cs⟩
theorem Tri.putB (t : Tri H b c s w) (l : List (Str × Bool)) : Tri (upd H b (.dK (dL V.bl l))) b c s ⟨l, w.cnt, w.seen⟩ := ⟨upd_same, by rw [upd_ne t.bc.symm]; exact t.hc, by rw [upd_ne t.bs.symm]; exact t.hs, t.bc, t.bs, t.cs⟩
theorem Tri.putC (t : Tri H b c s w) (l : List (Str × Int)) : Tri (upd H c (.dK (dL V.int l))) b c s ⟨w.bits, l, w.seen⟩ := ⟨by rw [upd_ne t.bc]; exact t.hb, upd_same, by rw [upd_ne t.cs.symm]; exact t.hs, t.bc, t.bs, t.cs⟩
theorem Tri.putS (t : Tri H b c s w) (l : List (Str × Bool)) : Tri (upd H s (.dK (dL V.bl l))) b c s ⟨w.bits, w.cnt, l⟩ := ⟨by rw [upd_ne t.bs]; exact t.hb, by rw [upd_ne t.cs]; exact t.hc, upd_same, t.bc, t.bs, t.cs⟩
theorem But3.imm {T : Addr → Prop} (h : But3 b c s H H') (t : Tri H b c s w) : Imm T H H' := fun a o e i => h a o e
  (fun q => by rw [q, t.hb] at e; cases e; exact i) (fun q => by rw [q, t.hc] at e; cases e; exact i) (fun q => by rw [q, t.hs] at e; cases e; exact i)
theorem But3.same {H0 : Hp} (s0 : Same H0 H) (h : But3 b c s H H') (nb : H0 b = none) (nc : H0 c = none) (ns : H0 s = none) : Same H0 H' := fun a o e => h a o (s0 a o e) (ne_of_none e nb) (ne_of_none e nc) (ne_of_none e ns)
end
/-- three dicts and three others -/
def Ap3 (b c s b2 c2 s2 : Addr) : Prop := (b ≠ b2 ∧ b ≠ c2 ∧ b ≠ s2) ∧ (c ≠ b2 ∧ c ≠ c2 ∧ c ≠ s2) ∧ (s ≠ b2 ∧ s ≠ c2 ∧ s ≠ s2)
theorem Ap3.symm {b c s b2 c2 s2 : Addr} (h : Ap3 b c s b2 c2 s2) : Ap3 b2 c2 s2 b c s :=
  ⟨⟨h.1.1.symm, h.2.1.1.symm, h.2.2.1.symm⟩, ⟨h.1.2.1.symm, h.2.1.2.1.symm, h.2.2.2.1.symm⟩, ⟨h.1.2.2.symm, h.2.1.2.2.symm, h.2.2.2.2.symm⟩⟩
theorem Tri.ap {H : Hp} {b c s b2 c2 s2 : Addr} {u : Ws} (t : Tri H b c s u) (n1 : H b2 = none) (n2 : H c2 = none) (n3 : H s2 = none) : Ap3 b c s b2 c2 s2 :=
  ⟨⟨ne_of_none t.hb n1, ne_of_none t.hb n2, ne_of_none t.hb n3⟩, ⟨ne_of_none t.hc n1, ne_of_none t.hc n2, ne_of_none t.hc n3⟩, ⟨ne_of_none t.hs n1, ne_of_none t.hs n2, ne_of_none t.hs n3⟩⟩
theorem Tri.butA {H H' : Hp} {b c s b2 c2 s2 : Addr} {u : Ws} (t : Tri H b c s u) (k : But3 b2 c2 s2 H H') (n : Ap3 b c s b2 c2 s2) : Tri H' b c s u :=
  ⟨k _ _ t.hb n.1.1 n.1.2.1 n.1.2.2, k _ _ t.hc n.2.1.1 n.2.1.2.1 n.2.1.2.2, k _ _ t.hs n.2.2.1 n.2.2.2.1 n.2.2.2.2, t.bc, t.bs, t.cs⟩
theorem Tri.lock {H : Hp} {b c s d : Addr} {u : Ws} {od : Obj} {o : HO} (t : Tri H b c s u) (n : b ≠ d ∧ c ≠ d ∧ s ≠ d) : Tri (upd H d (.frz od o)) b c s u :=
  ⟨by rw [upd_ne n.1]; exact t.hb, by rw [upd_ne n.2.1]; exact t.hc, by rw [upd_ne n.2.2]; exact t.hs, t.bc, t.bs, t.cs⟩

--%% N8
/-! ## works: made -/
abbrev s_Works___init__ : Stmt := inClass (top 25) 0
theorem sc_Works___init__ : FnScope ["self", "ladder", "name", "rung"] ["self", "ladder"] (defScope s_Works___init__) := ⟨rfl, rfl, rfl, by decide +kernel, rfl, by decide +kernel, by decide +kernel⟩
structure TWorks (K : PySem.W.Frag) (mg : Str → Option Value) (cs : Cs) (cc : Addr) (xc : Xc) (cw : Addr) : Prop where
  lad : TLad K mg cs cc xc
  c_Works : ClsAt K mg "Works" cw
  nl_wk : NoAttr K cw "ladder"
  nb_wk : NoAttr K cw "bits"
  nc_wk : NoAttr K cw "counts"
  ns_wk : NoAttr K cw "seen"
  i_wk : MethAt K cw "__init__" "Works.__init__" s_Works___init__ ["self", "ladder"]
/-- the fields of works -/
def wkF (lv : V) (b c s : Addr) : List (Str × V) := [("ladder", lv), ("bits", .ref b), ("counts", .ref c), ("seen", .ref s)]
/-- at v stand works of the ladder l, at w -/
def IsW (K : PySem.W.Frag) (cs : Cs) (cw : Addr) (H : Hp) (v : V) (l : Lad) (b c s : Addr) (w : Ws) : Prop := ∃ a dx lv, v = .ref a ∧ H a = some (.ins cw dx (wkF lv b c s)) ∧ IsL K cs H lv l ∧ Tri H b c s w
section
variable {P : Program} {w : World} {K : PySem.W.Frag} {mg : Str → Option Value} {base : Heap} {cs : Cs} {cc : Addr} {xc : Xc} {cw : Addr}
theorem TWorks.z_isinstance (T : TWorks K mg cs cc xc cw) : mg "isinstance" = none := T.lad.z_isinstance
theorem TWorks.is_Timer (T : TWorks K mg cs cc xc cw) : Ru.IsT K cs.ce.timer (fun C b => ∃ k : Ek, C = cs.ce.at k ∧ b = decide (k = .timer)) := T.lad.enk.is_Timer
theorem TWorks.is_Counter (T : TWorks K mg cs cc xc cw) : Ru.IsT K cs.ce.counter (fun C b => ∃ k : Ek, C = cs.ce.at k ∧ b = decide (k = .counter)) := T.lad.enk.is_Counter
theorem TWorks.is_Coil (T : TWorks K mg cs cc xc cw) : Ru.IsT K cs.ce.coil (fun C b => ∃ k : Ek, C = cs.ce.at k ∧ b = decide (k = .coil)) := T.lad.enk.is_Coil
theorem TWorks.is_Latch (T : TWorks K mg cs cc xc cw) : Ru.IsT K cs.ce.latch (fun C b => ∃ k : Ek, C = cs.ce.at k ∧ b = decide (k = .latch)) := T.lad.enk.is_Latch
theorem TWorks.is_Unlatch (T : TWorks K mg cs cc xc cw) : Ru.IsT K cs.ce.unlatch (fun C b => ∃ k : Ek, C = cs.ce.at k ∧ b = decide (k = .unlatch)) := T.lad.enk.is_Unlatch
theorem TWorks.c_Timer (T : TWorks K mg cs cc xc cw) : ClsAt K mg "Timer" cs.ce.timer := T.lad.enk.c_Timer
theorem TWorks.c_Counter (T : TWorks K mg cs cc xc cw) : ClsAt K mg "Counter" cs.ce.counter := T.lad.enk.c_Counter
theorem TWorks.c_Coil (T : TWorks K mg cs cc xc cw) : ClsAt K mg "Coil" cs.ce.coil := T.lad.enk.c_Coil
theorem TWorks.c_Latch (T : TWorks K mg cs cc xc cw) : ClsAt K mg "Latch" cs.ce.latch := T.lad.enk.c_Latch
theorem TWorks.c_Unlatch (T : TWorks K mg cs cc xc cw) : ClsAt K mg "Unlatch" cs.ce.unlatch := T.lad.enk.c_Unlatch
theorem lkW1 {lv : V} {b c s : Addr} : List.lookup ("ladder" : Str) (wkF lv b c s) = some lv := by simp [List.lookup, wkF]
theorem lkW2 {lv : V} {b c s : Addr} : List.lookup ("bits" : Str) (wkF lv b c s) = some (.ref b) := by
  have e : (("bits" : Str) == ("ladder" : Str)) = false := by decide +kernel
  simp [List.lookup, wkF, e]
theorem lkW3 {lv : V} {b c s : Addr} : List.lookup ("counts" : Str) (wkF lv b c s) = some (.ref c) := by
  have e : (("counts" : Str) == ("ladder" : Str)) = false := by decide +kernel
  have e1 : (("counts" : Str) == ("bits" : Str)) = false := by decide +kernel
  simp [List.lookup, wkF, e, e1]
theorem lkW4 {lv : V} {b c s : Addr} : List.lookup ("seen" : Str) (wkF lv b c s) = some (.ref s) := by
  have e : (("seen" : Str) == ("ladder" : Str)) = false := by decide +kernel
  have e1 : (("seen" : Str) == ("bits" : Str)) = false := by decide +kernel
  have e2 : (("seen" : Str) == ("counts" : Str)) = false := by decide +kernel
  simp [List.lookup, wkF, e, e1, e2]
theorem lkWn {lv : V} {b c s : Addr} {m : Str} (h : ((m == ("ladder" : Str)) || (m == ("bits" : Str)) || (m == ("counts" : Str)) || (m == ("seen" : Str))) = false) : List.lookup m (wkF lv b c s) = none := by
  simp only [Bool.or_eq_false_iff] at h
  simp [List.lookup, wkF, h]
/-- works under way, made where H0 stood -/
structure Wi (H0 H : Hp) (x cw dx : Addr) (lv : V) (b c s : Addr) (w : Ws) : Prop where
  same : Same H0 H
  obj : H x = some (.ins cw dx (wkF lv b c s))
  tri : Tri H b c s w
  nb : H0 b = none
  nc : H0 c = none
  ns : H0 s = none
theorem Wi.ne {H0 H : Hp} {x cw dx : Addr} {lv : V} {b c s : Addr} {w : Ws} (i : Wi H0 H x cw dx lv b c s w) : x ≠ b ∧ x ≠ c ∧ x ≠ s :=
  ⟨fun e => (by have := i.obj; rw [e, i.tri.hb] at this; cases this), fun e => (by have := i.obj; rw [e, i.tri.hc] at this; cases this), fun e => (by have := i.obj; rw [e, i.tri.hs] at this; cases this)⟩
theorem Wi.putB {H0 H : Hp} {x cw dx : Addr} {lv : V} {b c s : Addr} {w : Ws} (i : Wi H0 H x cw dx lv b c s w) (l : List (Str × Bool)) : Wi H0 (upd H b (.dK (dL V.bl l))) x cw dx lv b c s ⟨l, w.cnt, w.seen⟩ := ⟨Same.mut i.same i.nb, by rw [upd_ne i.ne.1]; exact i.obj, i.tri.putB l, i.nb, i.nc, i.ns⟩
theorem Wi.putC {H0 H : Hp} {x cw dx : Addr} {lv : V} {b c s : Addr} {w : Ws} (i : Wi H0 H x cw dx lv b c s w) (l : List (Str × Int)) : Wi H0 (upd H c (.dK (dL V.int l))) x cw dx lv b c s ⟨w.bits, l, w.seen⟩ := ⟨Same.mut i.same i.nc, by rw [upd_ne i.ne.2.1]; exact i.obj, i.tri.putC l, i.nb, i.nc, i.ns⟩
theorem Wi.putS {H0 H : Hp} {x cw dx : Addr} {lv : V} {b c s : Addr} {w : Ws} (i : Wi H0 H x cw dx lv b c s w) (l : List (Str × Bool)) : Wi H0 (upd H s (.dK (dL V.bl l))) x cw dx lv b c s ⟨w.bits, w.cnt, l⟩ := ⟨Same.mut i.same i.ns, by rw [upd_ne i.ne.2.2]; exact i.obj, i.tri.putS l, i.nb, i.nc, i.ns⟩
theorem Wi.keep {H0 H H' : Hp} {x cw dx : Addr} {lv : V} {b c s : Addr} {w : Ws} (i : Wi H0 H x cw dx lv b c s w) (k : Same H H') : Wi H0 H' x cw dx lv b c s w := ⟨i.same.trans k, k _ _ i.obj, i.tri.keep k, i.nb, i.nc, i.ns⟩
theorem map_take_snoc {ns : List Str} {i : Nat} {n : Str} (h : ns[i]? = some n) (hn : ns.Nodup) : putL ((ns.take i).map fun n => (n, false)) n false = (ns.take (i + 1)).map fun n => (n, false) := by
  rw [keys_new, List.take_succ, h, List.map_append]
  · rfl
  · intro hm
    have hk : n ∈ ns.take i := by
      obtain ⟨p, hp, e⟩ := List.mem_map.mp hm
      obtain ⟨q, hq, rfl⟩ := List.mem_map.mp hp
      rw [← e]
      exact hq
    have hsp : ns.take i ++ ns.drop i = ns := List.take_append_drop i ns
    obtain ⟨hi, hg⟩ := List.getElem?_eq_some_iff.mp h
    rw [← hsp, List.nodup_append] at hn
    exact hn.2.2 n hk n (by rw [List.drop_eq_getElem_cons hi, hg]; exact List.mem_cons_self) rfl
theorem k_counts (k : Ek) : (decide (k = .timer) || decide (k = .counter)) = k.counts := by cases k <;> rfl
def spInitWk (K : PySem.W.Frag) (cs : Cs) (cw : Addr) : Sp := fun vs H Q _ => ∃ (H0 : Hp) (x dx : Addr) (lv : V) (l : Lad), vs = [.ref x, lv] ∧ H x = some (.ins cw dx []) ∧ Same H0 H ∧ H0 x = none ∧ IsL K cs H0 lv l ∧ l.fair = true ∧
  ∀ (H' : Hp) (b c s : Addr), Wi H0 H' x cw dx lv b c s (wNew l) → Q .non H'
theorem ok_init_wk (T : TWorks K mg cs cc xc cw) : MakAt P w K mg base CX0 "Works" cw 2 ["self", "ladder"] (spInitWk K cs cw) := by
  have G_written_names : DispAt P w K mg base CX0 (fun C => C = cs.ld) "written_names" 1 ["self"] (fun _ => spWrit K cs) := disp_written T.lad
  refine makAt_of T.c_Works (methAt_ok T.c_Works.cl T.i_wk sc_Works___init__ (fun vs H Q E h => ?_) (fun f cdv A outer st H vs Q E hr h => ?_))
  · obtain ⟨H0, x, dx, lv, l, rfl, _⟩ := h; rfl
  · obtain ⟨H0, x, dx, lv, l, rfl, hx, s0, n0, hl, hf, k⟩ := h
    have hu := hu_of hr
    obtain ⟨f1, f2, f3, f4, f5, f6, f7, f8, f9⟩ := (fair_iff l).mp hf
    refine ⟨_, (pss_cons (ps_fld (pv 0) (pv 1) rfl)
        (pss_cons (ps_fld (pv 0) pe_dnewK rfl)
        (pss_cons (ps_fld (pv 0) pe_dnewK rfl)
        (pss_cons (ps_fld (pv 0) pe_dnewK rfl)
        (pss_cons (ps_for PassesOwn.never rfl (pi_tup (pe_fld (pv 1) rfl)) (pg_name (i := 2) sc_Works___init__.nd rfl (by first | exact Or.inl rfl | exact Or.inr rfl)) (pss_one (ps_dput hu (pe_fld (pv 0) rfl) (pv 2) pe_bl rfl)))
        (pss_cons (ps_for PassesOwn.never rfl (pi_tup (pe_methD0 G_written_names hr pass0 (pv 1))) (pg_name (i := 2) sc_Works___init__.nd rfl (by first | exact Or.inl rfl | exact Or.inr rfl)) (pss_one (ps_dput hu (pe_fld (pv 0) rfl) (pv 2) pe_bl rfl)))
        (pss_one (ps_for PassesOwn.never rfl (pi_tup (pe_fld (pv 1) rfl)) (pg_name (i := 3) sc_Works___init__.nd rfl (by first | exact Or.inl rfl | exact Or.inr rfl)) (C8.pss_cut (ps_if (pt_val (pe_callB (call_isO2 T.is_Timer T.is_Counter) (by rfl) T.z_isinstance (by decide +kernel) (pa_cons (pe_fld (pv 3) rfl) (pa_cons (pe_tup (pa_cons (pe_cls T.c_Timer) (pa_cons (pe_cls T.c_Counter) pa_nil))) pa_nil)))) (pss_one (ps_dput hu (pe_fld (pv 0) rfl) (pe_fld (pe_fld (pv 3) rfl) rfl) pe_int rfl)) pss_nil)
          (pss_one (ps_if (pt_val (pe_callB (call_isO T.is_Counter) (by rfl) T.z_isinstance (by decide +kernel) (pa_cons (pe_fld (pv 3) rfl) (pa_cons (pe_cls T.c_Counter) pa_nil)))) (pss_one (ps_dput hu (pe_fld (pv 0) rfl) (pe_fld (pe_fld (pv 3) rfl) rfl) pe_bl rfl)) pss_nil))))))))))), ?_⟩
    walk_at "rd"
    refine ⟨_, rfl, _, rfl, x, _, dx, [], rfl, hx, T.c_Works.cl, T.nl_wk, (by show 0 < 1000; decide), fun b nb => ?_⟩
    have s1 : Same H0 (upd H x (.ins cw dx [("ladder", lv)])) := Same.mut s0 n0
    have x1 : upd H x (.ins cw dx [("ladder", lv)]) x = some (.ins cw dx [("ladder", lv)]) := upd_same
    have nb : upd H x (.ins cw dx [("ladder", lv)]) b = none := nb
    show sFld K (tVar 0) (fun σ H Q => Q (.ref b) (upd H b (.dK []))) _ _ _ (upd H x (.ins cw dx [("ladder", lv)]))
    generalize upd H x (.ins cw dx [("ladder", lv)]) = H1 at s1 x1 nb
    have b0 : H0 b = none := s1.free nb
    have xb : x ≠ b := ne_of_none x1 nb
    refine ⟨_, rfl, x, _, dx, _, rfl, Same.new nb _ _ x1, T.c_Works.cl, T.nb_wk, (by show 1 < 1000; decide), fun c nc => ?_⟩
    have s2 : Same H0 (upd (upd H1 b (.dK [])) x (.ins cw dx [("ladder", lv), ("bits", .ref b)])) := Same.mut (s1.trans (Same.new nb)) n0
    have x2 : upd (upd H1 b (.dK [])) x (.ins cw dx [("ladder", lv), ("bits", .ref b)]) x = some (.ins cw dx [("ladder", lv), ("bits", .ref b)]) := upd_same
    have hb2 : upd (upd H1 b (.dK [])) x (.ins cw dx [("ladder", lv), ("bits", .ref b)]) b = some (.dK []) := by rw [upd_ne xb.symm, upd_same]
    have nc : upd (upd H1 b (.dK [])) x (.ins cw dx [("ladder", lv), ("bits", .ref b)]) c = none := nc
    show sFld K (tVar 0) (fun σ H Q => Q (.ref c) (upd H c (.dK []))) _ _ _ (upd (upd H1 b (.dK [])) x (.ins cw dx [("ladder", lv), ("bits", .ref b)]))
    generalize upd (upd H1 b (.dK [])) x (.ins cw dx [("ladder", lv), ("bits", .ref b)]) = H2 at s2 x2 hb2 nc
    have c0 : H0 c = none := s2.free nc
    have xc' : x ≠ c := ne_of_none x2 nc
    have bc : b ≠ c := ne_of_none hb2 nc
    refine ⟨_, rfl, x, _, dx, _, rfl, Same.new nc _ _ x2, T.c_Works.cl, T.nc_wk, (by show 2 < 1000; decide), fun s ns => ?_⟩
    have s3 : Same H0 (upd (upd H2 c (.dK [])) x (.ins cw dx [("ladder", lv), ("bits", .ref b), ("counts", .ref c)])) := Same.mut (s2.trans (Same.new nc)) n0
    have x3 : upd (upd H2 c (.dK [])) x (.ins cw dx [("ladder", lv), ("bits", .ref b), ("counts", .ref c)]) x = some (.ins cw dx [("ladder", lv), ("bits", .ref b), ("counts", .ref c)]) := upd_same
    have hb3 : upd (upd H2 c (.dK [])) x (.ins cw dx [("ladder", lv), ("bits", .ref b), ("counts", .ref c)]) b = some (.dK []) := by rw [upd_ne xb.symm, upd_ne bc]; exact hb2
    have hc3 : upd (upd H2 c (.dK [])) x (.ins cw dx [("ladder", lv), ("bits", .ref b), ("counts", .ref c)]) c = some (.dK []) := by rw [upd_ne xc'.symm, upd_same]
    have ns : upd (upd H2 c (.dK [])) x (.ins cw dx [("ladder", lv), ("bits", .ref b), ("counts", .ref c)]) s = none := ns
    show sFld K (tVar 0) (fun σ H Q => Q (.ref s) (upd H s (.dK []))) _ _ _ (upd (upd H2 c (.dK [])) x (.ins cw dx [("ladder", lv), ("bits", .ref b), ("counts", .ref c)]))
    generalize upd (upd H2 c (.dK [])) x (.ins cw dx [("ladder", lv), ("bits", .ref b), ("counts", .ref c)]) = H3 at s3 x3 hb3 hc3 ns
    have s0' : H0 s = none := s3.free ns
    have xs' : x ≠ s := ne_of_none x3 ns
    have bs : b ≠ s := ne_of_none hb3 ns
    have cs' : c ≠ s := ne_of_none hc3 ns
    refine ⟨_, rfl, x, _, dx, _, rfl, Same.new ns _ _ x3, T.c_Works.cl, T.ns_wk, (by show 3 < 1000; decide), ?_⟩
    have w0 : Wi H0 (upd (upd H3 s (.dK [])) x (.ins cw dx (wkF lv b c s))) x cw dx lv b c s ⟨[], [], []⟩ :=
      ⟨Same.mut (s3.trans (Same.new ns)) n0, upd_same, ⟨by rw [upd_ne xb.symm, upd_ne bs]; exact hb3, by rw [upd_ne xc'.symm, upd_ne cs']; exact hc3, by rw [upd_ne xs'.symm, upd_same]; rfl, bc, bs, cs'⟩, b0, c0, s0'⟩
    show tSeq _ _ _ _ (upd (upd H3 s (.dK [])) x (.ins cw dx (wkF lv b c s)))
    generalize upd (upd H3 s (.dK [])) x (.ins cw dx (wkF lv b c s)) = H4 at w0
    obtain ⟨al, dl, ti, tt, tr, ws, rfl, hal, h1, h2, h3, h4⟩ := id hl
    have hlen := h4.length
    refine ⟨_, rfl, al, _, dl, _, _, rfl, w0.same _ _ hal, T.lad.c_Ladder.cl, T.lad.ni_ld, lkL1, ti, rfl, ⟨_, (h1.mono (Same.imm0 w0.same)).seq⟩,
      for_tup (K := K) (a := ti) (xs := l.ins.map V.str) (fun i σ H' => ∃ v2 : Option V, σ = [some (.ref x), some (.ref al), v2, none] ∧ Wi H0 H' x cw dx (.ref al) b c s ⟨(l.ins.take i).map fun n => (n, false), [], []⟩) ⟨none, rfl, w0⟩ (fun i σ H' _ ⟨_, _, q⟩ => (h1.mono (Same.imm0 q.same)).seq) ?_ ?_⟩
    · rintro i y σ H' hy ⟨v2, rfl, q⟩
      rw [List.getElem?_map] at hy
      obtain ⟨n, hn, rfl⟩ := Option.map_eq_some_iff.mp hy
      have hi := (List.getElem?_eq_some_iff.mp hn).1
      refine ⟨_, rfl, x, _, dx, _, _, rfl, q.obj, T.c_Works.cl, T.nb_wk, lkW2, _, rfl, b, _, rfl, DPut.k (k := .inr n) q.tri.hb (by rw [dL_len, List.length_map, List.length_take, sizeLine_eq]; omega), _, rfl, ?_⟩
      rw [dL_put, map_take_snoc hn f2]
      exact q.putB _
    rintro σ H5 ⟨v2, rfl, q5⟩
    rw [List.length_map, List.take_length] at q5
    clear w0
    refine ⟨_, rfl, al, _, dl, _, rfl, q5.same _ _ hal, rfl, lkLw, .ref al, l, rfl, hl.mono (Same.imm q5.same), by omega, fun H6 tw s6 htw => ?_⟩
    have q6 := q5.keep s6
    refine ⟨tw, rfl, ⟨_, SqT.of htw⟩, for_tup (K := K) (a := tw) (xs := (writ l.rs).map V.str) (fun i σ H' => ∃ v2 : Option V, σ = [some (.ref x), some (.ref al), v2, none] ∧ H' tw = some (.tup ((writ l.rs).map V.str)) ∧ Wi H0 H' x cw dx (.ref al) b c s ⟨((l.ins ++ writ l.rs).take (l.ins.length + i)).map fun n => (n, false), [], []⟩) ⟨v2, rfl, htw, by rw [Nat.add_zero, List.take_left]; exact q6⟩ (fun i σ H' _ ⟨_, _, e, q⟩ => SqT.of e) ?_ ?_⟩
    · rintro i y σ H' hy ⟨v2, rfl, e, q⟩
      rw [List.getElem?_map] at hy
      obtain ⟨n, hn, rfl⟩ := Option.map_eq_some_iff.mp hy
      have hi := (List.getElem?_eq_some_iff.mp hn).1
      have hn' : (l.ins ++ writ l.rs)[l.ins.length + i]? = some n := by rw [List.getElem?_append_right (by omega), Nat.add_sub_cancel_left]; exact hn
      have hnd : (l.ins ++ writ l.rs).Nodup := by
        rw [List.nodup_append]
        exact ⟨f2, writ_nodup _, fun a ha b hb e => f6 a ha (by rw [e]; exact hb)⟩
      refine ⟨_, rfl, x, _, dx, _, _, rfl, q.obj, T.c_Works.cl, T.nb_wk, lkW2, _, rfl, b, _, rfl, DPut.k (k := .inr n) q.tri.hb (by rw [dL_len, List.length_map, List.length_take, List.length_append, sizeLine_eq]; omega), _, rfl, ?_⟩
      rw [dL_put, map_take_snoc hn' hnd]
      refine ⟨?_, q.putB _⟩
      rw [upd_ne (fun e2 => by rw [e2, q.tri.hb] at e; cases e)]
      exact e
    rintro σ H7 ⟨v2, rfl, _, q7⟩
    rw [List.length_map, ← List.length_append, List.take_length] at q7
    clear q5 q6
    refine ⟨_, rfl, al, _, dl, _, _, rfl, q7.same _ _ hal, T.lad.c_Ladder.cl, T.lad.nr_ld, lkL3, tr, rfl, ⟨_, (h3.mono (Same.imm0 q7.same)).seq⟩,
      for_tup (K := K) (a := tr) (xs := ws) (fun i σ H' => ∃ v3 : Option V, σ = [some (.ref x), some (.ref al), v2, v3] ∧ Wi H0 H' x cw dx (.ref al) b c s ⟨(l.ins ++ writ l.rs).map fun n => (n, false), cnt0 (l.rs.take i), seen0 (l.rs.take i)⟩) ⟨none, rfl, q7⟩ (fun i σ H' _ ⟨_, _, q⟩ => (h3.mono (Same.imm0 q.same)).seq) ?_ ?_⟩
    · rintro i y σ H' hy ⟨v3, rfl, q⟩
      obtain ⟨r, hr', x', dx', p', e', rfl, hx', _, he'⟩ := h4.at hy
      obtain ⟨ea, de, rfl, hea⟩ := he'
      have hir := (List.getElem?_eq_some_iff.mp hr').1
      have lc := cnt0_len (l.rs.take i)
      have ls := seen0_len (l.rs.take i)
      rw [List.length_take] at lc ls
      rw [List.take_succ, hr']
      walk_at "rd"
      refine ⟨fun σ' H2 => σ' = [some (.ref x), some (.ref al), v2, some (.ref x')] ∧ Wi H0 H2 x cw dx (.ref al) b c s ⟨(l.ins ++ writ l.rs).map fun n => (n, false), cnt0 (l.rs.take i ++ [r]), seen0 (l.rs.take i)⟩, ?_, ?_⟩
      · walk_at "rd"
        refine ⟨_, rfl, x', _, dx', _, _, rfl, q.same _ _ hx', T.lad.c_Rung.cl, T.lad.ne_rg, lkR2, line_ge (by decide), fun t nt => ?_⟩
        have q1 := q.keep (Same.new (o := .tup [.ref cs.ce.timer, .ref cs.ce.counter]) nt)
        refine ⟨ea, t, _, de, _, _, rfl, upd_same, q1.same _ _ hea, ⟨_, ⟨r.e.k, rfl, rfl⟩, _, ⟨r.e.k, rfl, rfl⟩, rfl⟩, _, rfl, ?_⟩
        rw [k_counts, cnt0_snoc]
        cases hc : r.e.k.counts with
        | false => exact iteF q1
        | true =>
          refine iteT ⟨_, rfl, x, _, dx, _, _, rfl, q1.obj, T.c_Works.cl, T.nc_wk, lkW3, _, rfl, x', _, dx', _, _, rfl, q1.same _ _ hx', T.lad.c_Rung.cl, T.lad.ne_rg, lkR2, ea, _, de, _, _, rfl, q1.same _ _ hea, T.lad.enk.ends.cls _, T.lad.enk.ends.nn _, E_name _, c, _, rfl, DPut.k (k := .inr r.e.n) q1.tri.hc (by rw [dL_len, sizeLine_eq]; simp only; omega), rfl, ?_⟩
          rw [if_pos rfl]
          have q2 := q1.putC (putL (cnt0 (l.rs.take i)) r.e.n 0)
          rw [← dL_put] at q2
          exact q2
      rintro σ2 H2 ⟨rfl, q2⟩
      walk_at "rd"
      refine ⟨_, rfl, x', _, dx', _, _, rfl, q2.same _ _ hx', T.lad.c_Rung.cl, T.lad.ne_rg, lkR2, ea, _, de, _, _, rfl, q2.same _ _ hea, ⟨r.e.k, rfl, rfl⟩, _, rfl, ?_⟩
      show ite _ _ (Wi _ _ _ _ _ _ _ _ _ ⟨_, cnt0 (l.rs.take i ++ [r]), seen0 (l.rs.take i ++ [r])⟩)
      rw [seen0_snoc]
      by_cases hc : r.e.k = .counter
      · rw [decide_eq_true hc]
        refine iteT ⟨_, rfl, x, _, dx, _, _, rfl, q2.obj, T.c_Works.cl, T.ns_wk, lkW4, _, rfl, x', _, dx', _, _, rfl, q2.same _ _ hx', T.lad.c_Rung.cl, T.lad.ne_rg, lkR2, ea, _, de, _, _, rfl, q2.same _ _ hea, T.lad.enk.ends.cls _, T.lad.enk.ends.nn _, E_name _, s, _, rfl, DPut.k (k := .inr r.e.n) q2.tri.hs (by rw [dL_len, sizeLine_eq]; simp only; omega), _, rfl, ?_⟩
        have q3 := q2.putS (putL (seen0 (l.rs.take i)) r.e.n false)
        rw [← dL_put] at q3
        show Wi _ _ _ _ _ _ _ _ _ ⟨_, cnt0 (l.rs.take i ++ [r]), seen0 (l.rs.take i ++ [r])⟩
        rw [seen0_snoc, if_pos hc]
        exact q3
      · rw [decide_eq_false hc, if_neg hc]
        exact iteF q2
    · rintro σ H' ⟨v3, rfl, q⟩
      rw [hlen, List.take_length] at q
      exact k _ b c s q
end

--%% N9
/-! ## works: a scan -/
/-- bits as an image -/
theorem good_bits {b : List (Str × Bool)} (h : (keysL b).Nodup) (hl : b.length ≤ 100) : GoodD (dL V.bl b) := by
  refine ⟨fun p hp => ?_, by rw [dL_len]; exact hl⟩
  obtain ⟨q, hq, rfl⟩ := List.mem_map.mp hp
  refine ⟨?_, _, rfl⟩
  rw [dL_get]
  have : getL b q.1 = some q.2 := by
    unfold getL
    clear hl hp
    induction b with
    | nil => cases hq
    | cons x b ih =>
      rw [keysL, List.map_cons, List.nodup_cons] at h
      rcases List.mem_cons.mp hq with rfl | hq
      · rw [List.find?_cons_of_pos (by simp)]
        rfl
      · have : x.1 ≠ q.1 := fun e => h.1 (by rw [e]; exact List.mem_map.mpr ⟨q, hq, rfl⟩)
        rw [List.find?_cons_of_neg (by simpa using this)]
        exact ih h.2 hq
  rw [this]
  rfl
theorem im_bits (b : List (Str × Bool)) (c : List (Str × Int)) (s : List (Str × Bool)) : imF (dL V.bl b) = Ws.im ⟨b, c, s⟩ := by
  funext n
  unfold imF Ws.im Ws.bitOf
  rw [dL_get]
  show _ = (getL b n).getD false
  cases getL b n <;> rfl
/-! ## works: a scan -/
abbrev s_need_row : Stmt := top 24
theorem sc_need_row : FnScope ["ladder", "row", "truth"] ["ladder", "row"] (defScope s_need_row) := ⟨rfl, rfl, rfl, by decide +kernel, rfl, by decide +kernel, by decide +kernel⟩
abbrev s_Works_act : Stmt := inClass (top 25) 2
theorem sc_Works_act : FnScope ["self", "end", "holds"] ["self", "end", "holds"] (defScope s_Works_act) := ⟨rfl, rfl, rfl, by decide +kernel, rfl, by decide +kernel, by decide +kernel⟩
abbrev s_Works_count_on : Stmt := inClass (top 25) 3
theorem sc_Works_count_on : FnScope ["self", "end", "holds", "more"] ["self", "end", "holds"] (defScope s_Works_count_on) := ⟨rfl, rfl, rfl, by decide +kernel, rfl, by decide +kernel, by decide +kernel⟩
abbrev s_Works_scan : Stmt := inClass (top 25) 1
theorem sc_Works_scan : FnScope ["self", "row", "name", "truth", "held", "rung", "holds"] ["self", "row"] (defScope s_Works_scan) := ⟨rfl, rfl, rfl, by decide +kernel, rfl, by decide +kernel, by decide +kernel⟩
structure TScan (K : PySem.W.Frag) (mg : Str → Option Value) (cs : Cs) (cc : Addr) (xc : Xc) (cw : Addr) : Prop where
  wk : TWorks K mg cs cc xc cw
  hol : THolds K mg cs.cl
  d_need_row : DefAt K mg "need_row" s_need_row ["ladder", "row"]
  m_act : MethAt K cw "act" "Works.act" s_Works_act ["self", "end", "holds"]
  m_count_on : MethAt K cw "count_on" "Works.count_on" s_Works_count_on ["self", "end", "holds"]
  m_scan : MethAt K cw "scan" "Works.scan" s_Works_scan ["self", "row"]
  z_len : mg "len" = none
  z_min : mg "min" = none
  z_zip : mg "zip" = none
  z_bool : mg "bool" = none
  z_tuple : mg "tuple" = none
section
variable {P : Program} {w : World} {K : PySem.W.Frag} {mg : Str → Option Value} {base : Heap} {cs : Cs} {cc : Addr} {xc : Xc} {cw : Addr}
theorem TScan.z_isinstance (T : TScan K mg cs cc xc cw) : mg "isinstance" = none := T.wk.z_isinstance
theorem TScan.is_Timer (T : TScan K mg cs cc xc cw) : Ru.IsT K cs.ce.timer (fun C b => ∃ k : Ek, C = cs.ce.at k ∧ b = decide (k = .timer)) := T.wk.is_Timer
theorem TScan.c_Timer (T : TScan K mg cs cc xc cw) : ClsAt K mg "Timer" cs.ce.timer := T.wk.c_Timer
theorem TScan.is_Counter (T : TScan K mg cs cc xc cw) : Ru.IsT K cs.ce.counter (fun C b => ∃ k : Ek, C = cs.ce.at k ∧ b = decide (k = .counter)) := T.wk.is_Counter
theorem TScan.c_Counter (T : TScan K mg cs cc xc cw) : ClsAt K mg "Counter" cs.ce.counter := T.wk.c_Counter
theorem TScan.is_Coil (T : TScan K mg cs cc xc cw) : Ru.IsT K cs.ce.coil (fun C b => ∃ k : Ek, C = cs.ce.at k ∧ b = decide (k = .coil)) := T.wk.is_Coil
theorem TScan.c_Coil (T : TScan K mg cs cc xc cw) : ClsAt K mg "Coil" cs.ce.coil := T.wk.c_Coil
theorem TScan.is_Latch (T : TScan K mg cs cc xc cw) : Ru.IsT K cs.ce.latch (fun C b => ∃ k : Ek, C = cs.ce.at k ∧ b = decide (k = .latch)) := T.wk.is_Latch
theorem TScan.c_Latch (T : TScan K mg cs cc xc cw) : ClsAt K mg "Latch" cs.ce.latch := T.wk.c_Latch
theorem TScan.is_Unlatch (T : TScan K mg cs cc xc cw) : Ru.IsT K cs.ce.unlatch (fun C b => ∃ k : Ek, C = cs.ce.at k ∧ b = decide (k = .unlatch)) := T.wk.is_Unlatch
theorem TScan.c_Unlatch (T : TScan K mg cs cc xc cw) : ClsAt K mg "Unlatch" cs.ce.unlatch := T.wk.c_Unlatch
/-- works at x, their dicts -/
def AtW (cw : Addr) (H : Hp) (x : Addr) (b c s : Addr) : Prop := ∃ dx lv, H x = some (.ins cw dx (wkF lv b c s))
theorem AtW.ne {H : Hp} {x b c s : Addr} {w : Ws} (h : AtW cw H x b c s) (t : Tri H b c s w) : x ≠ b ∧ x ≠ c ∧ x ≠ s := by
  obtain ⟨dx, lv, h⟩ := h
  exact ⟨fun e => (by rw [e, t.hb] at h; cases h), fun e => (by rw [e, t.hc] at h; cases h), fun e => (by rw [e, t.hs] at h; cases h)⟩
def spCountOn (cs : Cs) (cw : Addr) : Sp := fun vs H Q _ => ∃ (x b c s : Addr) (v : V) (e : EndC) (h : Bool) (u : Ws), vs = [.ref x, v, .bl h] ∧ AtW cw H x b c s ∧ Tri H b c s u ∧ IsE cs.ce H v e ∧ e.k.counts = true ∧ e.n ∈ keysL u.bits ∧ e.n ∈ keysL u.cnt ∧ (e.k = .counter → e.n ∈ keysL u.seen) ∧
  u.bits.length ≤ 100 ∧ u.cnt.length ≤ 100 ∧ u.seen.length ≤ 100 ∧ ∀ H', But3 b c s H H' → Tri H' b c s (act u e h) → Q .non H'
theorem disp_count_on (T : TScan K mg cs cc xc cw) : DispAt P w K mg base CX0 (fun C => C = cw) "count_on" 1 ["self", "end", "holds"] (fun _ => spCountOn cs cw) := by
  refine ⟨fun C hC => ?_⟩
  subst hC
  refine methAt_ok T.wk.c_Works.cl T.m_count_on sc_Works_count_on (fun vs H Q E h => ?_) (fun f cdv A outer st H vs Q E hr h => ?_)
  · obtain ⟨x, b, c, s, v, e, h, u, rfl, _⟩ := h; rfl
  · obtain ⟨x, b, c, s, v, e, h, u, rfl, hx, ht, he, hk, hb, hc, hs, l1, l2, l3, k⟩ := h
    have hu := hu_of hr
    obtain ⟨dx, lv, hx⟩ := id hx
    obtain ⟨a, de, rfl, hea⟩ := he
    have hne := AtW.ne ⟨dx, lv, hx⟩ ht
    have heb : ∀ {q : Addr} {kvs : List (Key × V)}, H q = some (.dK kvs) → a ≠ q := fun h e => (by rw [e, h] at hea; cases hea)
    have hm := E_most (e := e) hk
    refine ⟨_, (pss_cons (ps_set (i := 3) sc_Works_count_on.nd rfl (by first | exact Or.inl rfl | exact Or.inr rfl) (pe_callB (call_min2 rfl) (by rfl) T.z_min (by decide +kernel) (pa_cons (pe_op op_add (pe_dget (by exact hu) (pe_fld (pv 0) rfl) (pe_fld (pv 1) rfl) (fun _ _ => rfl)) pe_int) (pa_cons (pe_fld (pv 1) rfl) pa_nil))))
        (pss_cons (ps_if (pt_val (pe_callB (call_isO T.is_Timer) (by rfl) T.z_isinstance (by decide +kernel) (pa_cons (pv 1) (pa_cons (pe_cls T.c_Timer) pa_nil)))) (pss_one (ps_dput hu (pe_fld (pv 0) rfl) (pe_fld (pv 1) rfl) (pe_ifExp (pt_val (pv 2)) (pv 3) pe_int) rfl)) (C8.pss_cut (ps_if (PW.pt (pw_and (pt_val (pv 2)) (pw_and1 (pt_not (pt_val (pe_dget (by exact hu) (pe_fld (pv 0) rfl) (pe_fld (pv 1) rfl) (fun _ _ => rfl))))))) (pss_one (ps_dput hu (pe_fld (pv 0) rfl) (pe_fld (pv 1) rfl) (pv 3) rfl)) pss_nil)
          (pss_one (ps_dput hu (pe_fld (pv 0) rfl) (pe_fld (pv 1) rfl) (pv 2) rfl))))
        (pss_one (ps_dput hu (pe_fld (pv 0) rfl) (pe_fld (pv 1) rfl) (pe_cmpR op_eq (pe_dget (by exact hu) (pe_fld (pv 0) rfl) (pe_fld (pv 1) rfl) (fun _ _ => rfl)) (pe_fld (pv 1) rfl) (nomark _)) rfl)))), ?_⟩
    walk_at "rd"
    have gc : getL u.cnt e.n = some (u.cntOf e.n) := by
      obtain ⟨q, hq⟩ := getL_mem.mpr hc
      unfold Ws.cntOf
      rw [hq]
      rfl
    refine ⟨_, rfl, x, _, dx, _, _, rfl, hx, T.wk.c_Works.cl, T.wk.nc_wk, lkW3, _, rfl, a, _, de, _, _, rfl, hea, T.wk.lad.enk.ends.cls _, T.wk.lad.enk.ends.nn _, E_name _, c, .int (u.cntOf e.n), rfl, .inl ⟨_, .inr e.n, .inl ht.hc, rfl, by rw [dL_get, gc]; rfl⟩, _, rfl, ?_⟩
    refine ⟨_, rfl, a, _, de, _, _, rfl, hea, T.wk.lad.enk.ends.cls _, T.wk.lad.enk.ends.nm _ hk, hm, _, e.m, ⟨rfl, rfl⟩, ?_⟩
    refine ⟨a, _, de, _, _, rfl, hea, ⟨e.k, rfl, rfl⟩, _, rfl, ?_⟩
    have emin : (if e.m < u.cntOf e.n + 1 then e.m else u.cntOf e.n + 1) = min (u.cntOf e.n + 1) e.m := by omega
    rw [emin]
    have keepx : ∀ {H' : Hp}, But3 b c s H H' → H' x = some (.ins C dx (wkF lv b c s)) ∧ H' a = some (.ins (cs.ce.at e.k) de e.fs) := fun q => ⟨q x _ hx hne.1 hne.2.1 hne.2.2, q a _ hea (heb ht.hb) (heb ht.hc) (heb ht.hs)⟩
    have tail : ∀ (j : Int) (H' : Hp) (u' : Ws) (cv : Int), But3 b c s H H' → Tri H' b c s u' → getL u'.cnt e.n = some cv → u'.bits = u.bits → act u e h = ⟨putL u.bits e.n (decide (cv = e.m)), u'.cnt, u'.seen⟩ →
        sDPut (tFld K (tVar 0) "bits") (tFld K (tVar 1) "name") (tOp rEq (tDGet (tFld K (tVar 0) "counts") (tFld K (tVar 1) "name")) (tFld K (tVar 1) "most")) { nx := fun x H' => Q V.non H', rt := Q } [some (.ref x), some (.ref a), some (.bl h), some (.int j)] H' := by
      intro j H' u' cv bt t' g' ebits eact
      obtain ⟨hx', hea'⟩ := keepx bt
      refine ⟨_, rfl, x, _, dx, _, _, rfl, hx', T.wk.c_Works.cl, T.wk.nc_wk, lkW3, _, rfl, a, _, de, _, _, rfl, hea', T.wk.lad.enk.ends.cls _, T.wk.lad.enk.ends.nn _, E_name _, c, .int cv, rfl, .inl ⟨_, .inr e.n, .inl t'.hc, rfl, by rw [dL_get, g']; rfl⟩, ?_⟩
      refine ⟨_, rfl, a, _, de, _, _, rfl, hea', T.wk.lad.enk.ends.cls _, T.wk.lad.enk.ends.nm _ hk, hm, scal_ii, ?_⟩
      refine ⟨_, rfl, x, _, dx, _, _, rfl, hx', T.wk.c_Works.cl, T.wk.nb_wk, lkW2, _, rfl, a, _, de, _, _, rfl, hea', T.wk.lad.enk.ends.cls _, T.wk.lad.enk.ends.nn _, E_name _, b, _, rfl, DPut.k (k := .inr e.n) t'.hb (by rw [dL_len, ebits, sizeLine_eq]; omega), ?_⟩
      have ed : decide (V.int cv = V.int e.m) = decide (cv = e.m) := by rw [decide_eq_decide, V.int.injEq]
      rw [ed]
      have q := k (upd H' b (.dK (dL V.bl (putL u'.bits e.n (decide (cv = e.m)))))) (bt.trans But3.ub) (by rw [eact, ebits]; exact t'.putB _)
      rw [← dL_put] at q
      exact q
    cases hkk : e.k with
    | coil => rw [hkk] at hk; cases hk
    | latch => rw [hkk] at hk; cases hk
    | unlatch => rw [hkk] at hk; cases hk
    | timer =>
      rw [if_pos (by decide)]
      have fin : ∀ cv : Int, cv = (if h = true then min (u.cntOf e.n + 1) e.m else 0) → sDPut (tFld K (tVar 0) "bits") (tFld K (tVar 1) "name") (tOp rEq (tDGet (tFld K (tVar 0) "counts") (tFld K (tVar 1) "name")) (tFld K (tVar 1) "most")) { nx := fun x H' => Q V.non H', rt := Q } [some (.ref x), some (.ref a), some (.bl h), some (.int (min (u.cntOf e.n + 1) e.m))] (upd H c (.dK (putK (dL V.int u.cnt) (.inr e.n) (.int cv)))) := by
        intro cv ecv
        refine tail _ _ ⟨u.bits, putL u.cnt e.n cv, u.seen⟩ cv But3.uc ?_ (by rw [getL_put, if_pos rfl]) rfl (by unfold My.act; rw [hkk, ecv])
        rw [dL_put]
        exact ht.putC _
      cases h with
      | true => exact ⟨_, rfl, _, rfl, iteT ⟨_, rfl, _, rfl, x, _, dx, _, _, rfl, hx, T.wk.c_Works.cl, T.wk.nc_wk, lkW3, _, rfl, a, _, de, _, _, rfl, hea, T.wk.lad.enk.ends.cls _, T.wk.lad.enk.ends.nn _, E_name _, c, _, rfl, DPut.k (k := .inr e.n) ht.hc (by rw [dL_len, sizeLine_eq]; omega), fin _ rfl⟩⟩
      | false => exact ⟨_, rfl, _, rfl, iteF ⟨_, rfl, x, _, dx, _, _, rfl, hx, T.wk.c_Works.cl, T.wk.nc_wk, lkW3, _, rfl, a, _, de, _, _, rfl, hea, T.wk.lad.enk.ends.cls _, T.wk.lad.enk.ends.nn _, E_name _, c, _, rfl, DPut.k (k := .inr e.n) ht.hc (by rw [dL_len, sizeLine_eq]; omega), fin _ rfl⟩⟩
    | counter =>
      rw [if_neg (by decide)]
      have gs : getL u.seen e.n = some (u.seenOf e.n) := by
        obtain ⟨q, hq⟩ := getL_mem.mpr (hs hkk)
        unfold Ws.seenOf
        rw [hq]
        rfl
      refine ⟨fun σ' H' => σ' = [some (.ref x), some (.ref a), some (.bl h), some (.int (min (u.cntOf e.n + 1) e.m))] ∧ But3 b c s H H' ∧ Tri H' b c s ⟨u.bits, if (h && !u.seenOf e.n) = true then putL u.cnt e.n (min (u.cntOf e.n + 1) e.m) else u.cnt, u.seen⟩, ?_, ?_⟩
      · cases h with
        | false => exact ⟨_, rfl, _, rfl, iteF (iteF ⟨rfl, But3.refl _, ht⟩)⟩
        | true =>
          refine ⟨_, rfl, _, rfl, iteT ⟨_, rfl, x, _, dx, _, _, rfl, hx, T.wk.c_Works.cl, T.wk.ns_wk, lkW4, _, rfl, a, _, de, _, _, rfl, hea, T.wk.lad.enk.ends.cls _, T.wk.lad.enk.ends.nn _, E_name _, s, .bl (u.seenOf e.n), rfl, .inl ⟨_, .inr e.n, .inl ht.hs, rfl, by rw [dL_get, gs]; rfl⟩, _, rfl, ?_⟩⟩
          cases u.seenOf e.n with
          | true => exact iteF ⟨rfl, But3.refl _, ht⟩
          | false =>
            refine iteT ⟨_, rfl, _, rfl, x, _, dx, _, _, rfl, hx, T.wk.c_Works.cl, T.wk.nc_wk, lkW3, _, rfl, a, _, de, _, _, rfl, hea, T.wk.lad.enk.ends.cls _, T.wk.lad.enk.ends.nn _, E_name _, c, _, rfl, DPut.k (k := .inr e.n) ht.hc (by rw [dL_len, sizeLine_eq]; omega), rfl, But3.uc, ?_⟩
            have q := ht.putC (putL u.cnt e.n (min (u.cntOf e.n + 1) e.m))
            rw [← dL_put] at q
            exact q
      rintro σ1 H1 ⟨rfl, bt, t1⟩
      obtain ⟨hx1, hea1⟩ := keepx bt
      refine ⟨_, rfl, _, rfl, x, _, dx, _, _, rfl, hx1, T.wk.c_Works.cl, T.wk.ns_wk, lkW4, _, rfl, a, _, de, _, _, rfl, hea1, T.wk.lad.enk.ends.cls _, T.wk.lad.enk.ends.nn _, E_name _, s, _, rfl, DPut.k (k := .inr e.n) t1.hs (by rw [dL_len, sizeLine_eq]; simp only; omega), ?_⟩
      have q := t1.putS (putL u.seen e.n h)
      rw [← dL_put] at q
      refine tail _ _ ⟨u.bits, if (h && !u.seenOf e.n) = true then putL u.cnt e.n (min (u.cntOf e.n + 1) e.m) else u.cnt, putL u.seen e.n h⟩ (if (h && !u.seenOf e.n) = true then min (u.cntOf e.n + 1) e.m else u.cntOf e.n) (bt.trans But3.us) q ?_ rfl (by unfold My.act; rw [hkk])
      show getL (if _ then _ else _) _ = _
      split
      · rw [getL_put, if_pos rfl]
      · exact gc
def spAct (cs : Cs) (cw : Addr) : Sp := fun vs H Q _ => ∃ (x b c s : Addr) (v : V) (e : EndC) (h : Bool) (u : Ws), vs = [.ref x, v, .bl h] ∧ AtW cw H x b c s ∧ Tri H b c s u ∧ IsE cs.ce H v e ∧ e.n ∈ keysL u.bits ∧ (e.k.counts = true → e.n ∈ keysL u.cnt) ∧ (e.k = .counter → e.n ∈ keysL u.seen) ∧
  u.bits.length ≤ 100 ∧ u.cnt.length ≤ 100 ∧ u.seen.length ≤ 100 ∧ ∀ H', But3 b c s H H' → Tri H' b c s (act u e h) → Q .non H'
theorem disp_act (T : TScan K mg cs cc xc cw) : DispAt P w K mg base CX0 (fun C => C = cw) "act" 2 ["self", "end", "holds"] (fun _ => spAct cs cw) := by
  have G_count_on : DispAt P w K mg base CX0 (fun C => C = cw) "count_on" 1 ["self", "end", "holds"] (fun _ => spCountOn cs cw) := disp_count_on T
  refine ⟨fun C hC => ?_⟩
  subst hC
  refine methAt_ok T.wk.c_Works.cl T.m_act sc_Works_act (fun vs H Q E h => ?_) (fun f cdv A outer st H vs Q E hr h => ?_)
  · obtain ⟨x, b, c, s, v, e, h, u, rfl, _⟩ := h; rfl
  · obtain ⟨x, b, c, s, v, e, h, u, rfl, hx, ht, he, hb, hc, hs, l1, l2, l3, k⟩ := h
    have hu := hu_of hr
    have hxw := hx
    have hev := he
    obtain ⟨dx, lv, hx⟩ := hx
    obtain ⟨a, de, rfl, hea⟩ := he
    have hne := AtW.ne ⟨dx, lv, hx⟩ ht
    refine ⟨_, (pss_one (ps_if (pt_val (pe_callB (call_isO T.is_Coil) (by rfl) T.z_isinstance (by decide +kernel) (pa_cons (pv 1) (pa_cons (pe_cls T.c_Coil) pa_nil)))) (pss_one (ps_dput hu (pe_fld (pv 0) rfl) (pe_fld (pv 1) rfl) (pv 2) rfl)) (pss_one (ps_if (pt_val (pe_callB (call_isO2 T.is_Timer T.is_Counter) (by rfl) T.z_isinstance (by decide +kernel) (pa_cons (pv 1) (pa_cons (pe_tup (pa_cons (pe_cls T.c_Timer) (pa_cons (pe_cls T.c_Counter) pa_nil))) pa_nil)))) (pss_one (ps_expr (pe_methD G_count_on hr pass0 (pv 0) (pa_cons (pv 1) (pa_cons (pv 2) pa_nil))))) (pss_one (ps_if (pt_val (pv 2)) (pss_cons (ps_dput hu (pe_fld (pv 0) rfl) (pe_fld (pv 1) rfl) (pe_callB (call_isO T.is_Latch) (by rfl) T.z_isinstance (by decide +kernel) (pa_cons (pv 1) (pa_cons (pe_cls T.c_Latch) pa_nil))) rfl)
              (pss_one (ps_if (PW.pt (pw_and (pt_val (pe_callB (call_isO T.is_Unlatch) (by rfl) T.z_isinstance (by decide +kernel) (pa_cons (pv 1) (pa_cons (pe_cls T.c_Unlatch) pa_nil)))) (pw_and1 (pt_cmp (pc_din hu (pe_fld (pv 1) rfl) (pe_fld (pv 0) rfl)))))) (pss_one (ps_dput hu (pe_fld (pv 0) rfl) (pe_fld (pv 1) rfl) pe_int rfl)) pss_nil))) pss_nil)))))), ?_⟩
    walk_at "rd"
    refine ⟨a, _, de, _, _, rfl, hea, ⟨e.k, rfl, rfl⟩, _, rfl, ?_⟩
    have putbit : ∀ (R : Hp → Prop) {v : Bool} {H1 : Hp}, H1 x = some (.ins C dx (wkF lv b c s)) → H1 a = some (.ins (cs.ce.at e.k) de e.fs) → Tri H1 b c s u → R (upd H1 b (.dK (dL V.bl (putL u.bits e.n v)))) →
        tFld K (tVar 0) "bits" [some (.ref x), some (.ref a), some (.bl h)] H1 fun d H2 => tFld K (tVar 1) "name" [some (.ref x), some (.ref a), some (.bl h)] H2 fun k H3 => ∃ p H4, d = .ref p ∧ DPut H3 p k (.bl v) H4 ∧ R H4 := by
      intro R v H1 hx1 hea1 t1 q
      refine ⟨_, rfl, x, _, dx, _, _, rfl, hx1, T.wk.c_Works.cl, T.wk.nb_wk, lkW2, _, rfl, a, _, de, _, _, rfl, hea1, T.wk.lad.enk.ends.cls _, T.wk.lad.enk.ends.nn _, E_name _, b, _, rfl, DPut.k (k := .inr e.n) t1.hb (by rw [dL_len, sizeLine_eq]; omega), ?_⟩
      rw [dL_put]
      exact q
    by_cases hcoil : e.k = .coil
    · rw [decide_eq_true hcoil, if_pos rfl]
      refine ⟨_, rfl, putbit (fun H' => Q .non H') hx hea ht (k _ But3.ub ?_)⟩
      unfold My.act
      rw [hcoil]
      exact ht.putB _
    rw [decide_eq_false hcoil, if_neg Bool.false_ne_true]
    refine ⟨line_ge (by decide), fun t nt => ⟨a, t, _, de, _, _, rfl, upd_same, Same.new nt _ _ hea, ⟨_, ⟨e.k, rfl, rfl⟩, _, ⟨e.k, rfl, rfl⟩, rfl⟩, _, rfl, ?_⟩⟩
    have st := Same.new (o := .tup [.ref cs.ce.timer, .ref cs.ce.counter]) nt
    have hx1 := st _ _ hx
    have hea1 := st _ _ hea
    have t1 := ht.keep st
    have b1 : But3 b c s H (upd H t (.tup [.ref cs.ce.timer, .ref cs.ce.counter])) := Same.but3 st
    generalize upd H t (.tup [.ref cs.ce.timer, .ref cs.ce.counter]) = H1 at hx1 hea1 t1 b1
    rw [k_counts]
    cases hk : e.k.counts with
    | true =>
      refine iteT ⟨_, rfl, x, C, dx, _, rfl, hx1, rfl, lkWn (by decide +kernel), _, rfl, _, rfl, x, b, c, s, .ref a, e, h, u, rfl, ⟨dx, lv, hx1⟩, t1, ⟨a, de, rfl, hea1⟩, hk, hb, hc hk, hs, l1, l2, l3, fun H2 b2 t2 => k H2 (b1.trans b2) t2⟩
    | false =>
      refine iteF ?_
      cases h with
      | false =>
        refine iteF (k _ b1 ?_)
        have : act u e false = u := by
          unfold My.act
          cases hkk : e.k with
          | coil => exact absurd hkk hcoil
          | latch => rfl
          | unlatch => rfl
          | timer => rw [hkk] at hk; cases hk
          | counter => rw [hkk] at hk; cases hk
        rw [this]
        exact t1
      | true =>
        refine iteT ⟨_, rfl, a, _, de, _, _, rfl, hea1, ⟨e.k, rfl, rfl⟩, putbit _ hx1 hea1 t1 ?_⟩
        have t2 := t1.putB (putL u.bits e.n (decide (e.k = .latch)))
        have b2 := b1.trans (But3.ub (b := b) (c := c) (s := s) (H := H1) (o := .dK (dL V.bl (putL u.bits e.n (decide (e.k = .latch))))))
        have hx2 : upd H1 b (.dK (dL V.bl (putL u.bits e.n (decide (e.k = .latch))))) x = some (.ins C dx (wkF lv b c s)) := by rw [upd_ne hne.1]; exact hx1
        have hea2 : upd H1 b (.dK (dL V.bl (putL u.bits e.n (decide (e.k = .latch))))) a = some (.ins (cs.ce.at e.k) de e.fs) := by
          rw [upd_ne (fun q => by rw [q, t1.hb] at hea1; cases hea1)]
          exact hea1
        generalize upd H1 b (.dK (dL V.bl (putL u.bits e.n (decide (e.k = .latch))))) = H2 at t2 b2 hx2 hea2 ⊢
        refine ⟨_, rfl, a, _, de, _, _, rfl, hea2, ⟨e.k, rfl, rfl⟩, _, rfl, ?_⟩
        by_cases hun : e.k = .unlatch
        · rw [decide_eq_true hun]
          have eact : act u e true = ⟨putL u.bits e.n false, if e.n ∈ keysL u.cnt then putL u.cnt e.n 0 else u.cnt, u.seen⟩ := by
            unfold My.act
            rw [hun]
            rfl
          rw [hun] at t2
          refine iteT ⟨_, rfl, a, _, de, _, _, rfl, hea2, T.wk.lad.enk.ends.cls _, T.wk.lad.enk.ends.nn _, E_name _, _, rfl, x, _, dx, _, _, rfl, hx2, T.wk.c_Works.cl, T.wk.nc_wk, lkW3, ?_⟩
          refine ⟨c, valV (dL V.int u.cnt) (.inr e.n : Key), rfl, .inl ⟨_, .inr e.n, .inl t2.hc, rfl, rfl⟩, _, rfl, ?_⟩
          rw [dL_get]
          by_cases hin : e.n ∈ keysL u.cnt
          · obtain ⟨q, hq⟩ := getL_mem.mpr hin
            rw [hq]
            refine iteT ⟨_, rfl, x, _, dx, _, _, rfl, hx2, T.wk.c_Works.cl, T.wk.nc_wk, lkW3, _, rfl, a, _, de, _, _, rfl, hea2, T.wk.lad.enk.ends.cls _, T.wk.lad.enk.ends.nn _, E_name _, c, _, rfl, DPut.k (k := .inr e.n) t2.hc (by rw [dL_len, sizeLine_eq]; show u.cnt.length < _; omega), k _ (b2.trans But3.uc) ?_⟩
            rw [eact, if_pos hin]
            have q := t2.putC (putL u.cnt e.n 0)
            rw [← dL_put] at q
            exact q
          · rw [getL_none.mpr hin]
            refine iteF (k _ b2 ?_)
            rw [eact, if_neg hin]
            exact t2
        · rw [decide_eq_false hun]
          have hl : e.k = .latch := by
            cases hkk : e.k with
            | coil => exact absurd hkk hcoil
            | latch => rfl
            | unlatch => exact absurd hkk hun
            | timer => rw [hkk] at hk; cases hk
            | counter => rw [hkk] at hk; cases hk
          refine iteF (iteF (k _ b2 ?_))
          unfold My.act
          rw [hl] at t2 ⊢
          exact t2
/-- a row that is asked for: a list or a tuple -/
def spNeedRow (K : PySem.W.Frag) (cs : Cs) (xc : Xc) : Sp := fun vs H Q E => ∃ (lv : V) (r : Addr) (l : Lad) (ws : List V), vs = [lv, .ref r] ∧ IsL K cs H lv l ∧ Sq K H r ws ∧ ws.all flatV = true ∧
  (ws.length = l.ins.length → (∀ v ∈ ws, isBlV v = true) → Q .non H) ∧ (¬ (ws.length = l.ins.length ∧ ∀ v ∈ ws, isBlV v = true) → E (.ref xc.row) none H)
theorem ok_need_row (T : TScan K mg cs cc xc cw) : FnAt P w K mg base (L2.CX P w) "need_row" 1 ["ladder", "row"] (spNeedRow K cs xc) := by
  have e_NoRow := T.wk.lad.exs.e_row
  refine fnAt_okX T.d_need_row sc_need_row (fun vs H Q E h => ?_) (fun f cdv A outer st H vs Q E hr h => ?_)
  · obtain ⟨lv, r, l, ws, rfl, _⟩ := h; rfl
  · obtain ⟨lv, r, l, ws, rfl, hl, hs, hf, q, qx⟩ := h
    obtain ⟨al, dl, ti, tt, tr, us, rfl, hal, h1, h2, h3, h4⟩ := hl
    refine ⟨_, (pss_cons (ps_if (pt_cmpR op_ne (pe_callB call_len_seq (by rfl) T.z_len PySem.boot_len (pa_cons (pv 1) pa_nil)) (pe_callB call_len_seq (by rfl) T.z_len PySem.boot_len (pa_cons (pe_fld (pv 0) rfl) pa_nil)) (nomark _)) (pss_one (ps_raiseO rfl e_NoRow (L2.takes_of rfl rfl rfl rfl))) pss_nil)
        (pss_one (ps_for (L2.passes_of rfl) rfl (pi_any (pv 1)) (pg_name (i := 2) sc_need_row.nd rfl (by first | exact Or.inl rfl | exact Or.inr rfl)) (pss_one (ps_if (pt_not (pt_val (pe_callB call_isBool (by rfl) T.z_isinstance (by decide +kernel) (pa_cons (pv 2) (pa_cons (pe_bltn (v := .ty "bool") (by rfl) T.z_bool (by decide +kernel) rfl) pa_nil))))) (pss_one (ps_raiseO rfl e_NoRow (L2.takes_of rfl rfl rfl rfl))) pss_nil))))), ?_⟩
    walk_at "rd"
    refine ⟨ws, hs, _, rfl, al, _, dl, _, _, rfl, hal, T.wk.lad.c_Ladder.cl, T.wk.lad.ni_ld, lkL1, ti, rfl, _, .inr h1.seq, ?_⟩
    rw [List.length_map]
    by_cases hlen : ws.length = l.ins.length
    · rw [decide_eq_true (show ((ws.length : Nat) : Int) = (l.ins.length : Int) by omega)]
      refine iteF ⟨_, rfl, r, ws, rfl, for_any (K := K) (a := r) (xs := ws) (fun i σ H' => ∃ v2 : Option V, σ = [some (.ref al), some (.ref r), v2] ∧ H' = H ∧ ∀ v ∈ ws.take i, isBlV v = true) ⟨none, rfl, rfl, by simp⟩ ?_ ?_ ?_⟩
      · rcases hs with hs | hs
        · exact .inl fun i σ H' _ ⟨_, _, e, _⟩ => e ▸ hs
        · exact .inr fun i σ H' _ ⟨_, _, e, _⟩ => e ▸ hs
      · rintro i v σ H' hv ⟨v2, rfl, rfl, hb⟩
        have hm := List.mem_of_getElem? hv
        have fv : flatV v = true := List.all_eq_true.mp hf v hm
        walk_at "rd"
        refine ⟨fv, ?_⟩
        show (if (!isBlV v) = true then _ else _)
        cases hbv : isBlV v with
        | true =>
          refine iteF (fun u hu => ?_)
          rw [List.take_succ, hv] at hu
          rcases List.mem_append.mp hu with hu | hu
          · exact hb u hu
          · rw [List.mem_singleton.mp hu]
            exact hbv
        | false => exact iteT (qx fun z => by have := z.2 v hm; rw [hbv] at this; cases this)
      · rintro σ H' ⟨v2, rfl, rfl, hb⟩
        rw [List.take_length] at hb
        exact q hlen hb
    · rw [decide_eq_false (show ¬ ((ws.length : Nat) : Int) = (l.ins.length : Int) by omega)]
      exact iteT (qx fun z => hlen z.1)
theorem But3.sqL {K : PySem.W.Frag} {H H' : Hp} {b c s a : Addr} {w : Ws} {xs : List V} (k : But3 b c s H H') (t : Tri H b c s w) (h : SqL K H a xs) : SqL K H' a xs := by
  rcases h with (h | ⟨o, h⟩) | h
  · exact .inl (.inl (k _ _ h (fun e => by rw [e, t.hb] at h; cases h) (fun e => by rw [e, t.hc] at h; cases h) (fun e => by rw [e, t.hs] at h; cases h)))
  · exact .inl (.inr ⟨o, k _ _ h (fun e => by rw [e, t.hb] at h; cases h) (fun e => by rw [e, t.hc] at h; cases h) (fun e => by rw [e, t.hs] at h; cases h)⟩)
  · exact .inr h
theorem But3.sqT {K : PySem.W.Frag} {H H' : Hp} {b c s a : Addr} {w : Ws} {xs : List V} (k : But3 b c s H H') (t : Tri H b c s w) (h : SqT K H a xs) : SqT K H' a xs := by
  rcases h with (h | ⟨o, h⟩) | h
  · exact .inl (.inl (k _ _ h (fun e => by rw [e, t.hb] at h; cases h) (fun e => by rw [e, t.hc] at h; cases h) (fun e => by rw [e, t.hs] at h; cases h)))
  · exact .inl (.inr ⟨o, k _ _ h (fun e => by rw [e, t.hb] at h; cases h) (fun e => by rw [e, t.hc] at h; cases h) (fun e => by rw [e, t.hs] at h; cases h)⟩)
  · exact .inr h
theorem But3.free {H H' : Hp} {b c s p : Addr} {w : Ws} (t : Tri H' b c s w) (k : But3 b c s H H') (np : H' p = none) : H p = none := by
  cases e : H p with
  | none => rfl
  | some o =>
    exfalso
    rw [k _ _ e (fun q => by rw [q, t.hb] at np; cases np) (fun q => by rw [q, t.hc] at np; cases np) (fun q => by rw [q, t.hs] at np; cases np)] at np
    cases np
theorem But3.off {H H' : Hp} {b c s p : Addr} {o : HO} (k : But3 b c s H H') (pn : H p = none) : But3 b c s H (upd H' p o) := fun a u e n1 n2 n3 => by
  rw [upd_ne (ne_of_none e pn)]
  exact k a u e n1 n2 n3
theorem Tri.off {H : Hp} {b c s p : Addr} {o : HO} {w : Ws} (t : Tri H b c s w) (pb : p ≠ b) (pc : p ≠ c) (ps : p ≠ s) : Tri (upd H p o) b c s w :=
  ⟨by rw [upd_ne pb.symm]; exact t.hb, by rw [upd_ne pc.symm]; exact t.hc, by rw [upd_ne ps.symm]; exact t.hs, t.bc, t.bs, t.cs⟩
/-- a good row -/
def spScan (K : PySem.W.Frag) (cs : Cs) (cw : Addr) (xc : Xc) : Sp := fun vs H Q E => ∃ (x dx r b c s : Addr) (lv : V) (l : Lad) (u : Ws) (ws : List V), vs = [.ref x, .ref r] ∧ H x = some (.ins cw dx (wkF lv b c s)) ∧ IsL K cs H lv l ∧ Tri H b c s u ∧ Fits l u ∧ l.fair = true ∧ (∀ g ∈ l.rs, g.c.size ≤ 60 ∧ g.c.depth ≤ 20) ∧ Sq K H r ws ∧ ws.all flatV = true ∧
  (∀ row : List Bool, ws = row.map V.bl → row.length = l.ins.length → ∀ (H' : Hp) (t : Addr), But3 b c s H H' → H t = none → Tri H' b c s (scanP l u row).1 → H' t = some (.tup ((scanP l u row).2.map V.bl)) → Q (.ref t) H') ∧
  (¬ (ws.length = l.ins.length ∧ ∀ v ∈ ws, isBlV v = true) → E (.ref xc.row) none H)
theorem bools_of : ∀ {ws : List V}, (∀ v ∈ ws, isBlV v = true) → ∃ row : List Bool, ws = row.map V.bl
  | [], _ => ⟨[], rfl⟩
  | v :: ws, h => by
    obtain ⟨row, e⟩ := bools_of fun u hu => h u (List.mem_cons_of_mem _ hu)
    have hv := h v List.mem_cons_self
    cases v with
    | bl b => exact ⟨b :: row, by rw [e]; rfl⟩
    | _ => cases hv
theorem disp_scan (T : TScan K mg cs cc xc cw) : DispAt P w K mg base (L2.CX P w) (fun C => C = cw) "scan" 22 ["self", "row"] (fun _ => spScan K cs cw xc) := by
  have GX_need_row : FnAt P w K mg base (L2.CX P w) "need_row" 1 _ (spNeedRow K cs xc) := ok_need_row T
  have G_act : DispAt P w K mg base CX0 (fun C => C = cw) "act" 2 ["self", "end", "holds"] (fun _ => spAct cs cw) := disp_act T
  have G_holds : DispAt P w K mg base CX0 cs.cl.has "holds" 21 ["self", "image"] (spHolds cs.cl 20) := disp_holds T.hol 20
  refine ⟨fun C hC => ?_⟩
  subst hC
  refine methAt_okX T.wk.c_Works.cl T.m_scan sc_Works_scan (fun vs H Q E h => ?_) (fun f cdv A outer st H vs Q E hr h => ?_)
  · obtain ⟨x, dx, r, b, c, s, lv, l, u, ws, rfl, _⟩ := h; rfl
  · obtain ⟨x, dx, r, b, c, s, lv, l, u, ws, rfl, hx, hl, ht, hfit, hfair, hsz, hs, hf, q, qx⟩ := h
    have hu := hu_of hr
    obtain ⟨f1, f2, f3, f4, f5, f6, f7, f8, f9⟩ := (fair_iff l).mp hfair
    refine ⟨_, (pss_cons (ps_expr (pe_callF GX_need_row hr (passX (L2.takes_of rfl rfl rfl rfl)) (pa_cons (pe_fld (pv 0) rfl) (pa_cons (pv 1) pa_nil))))
        (pss_cons (ps_for (L2.passes_of rfl) rfl (pi_zipM (by rfl) T.z_zip (pa_cons (pe_fld (pe_fld (pv 0) rfl) rfl) (pa_cons (pv 1) pa_nil))) (pg_tup rfl (pgs_cons (pg_name (i := 2) sc_Works_scan.nd rfl (by first | exact Or.inl rfl | exact Or.inr rfl)) (pgs_cons (pg_name (i := 3) sc_Works_scan.nd rfl (by first | exact Or.inl rfl | exact Or.inr rfl)) pgs_nil))) (pss_one (ps_dput hu (pe_fld (pv 0) rfl) (pv 2) (pv 3) rfl)))
        (pss_cons (ps_set (i := 4) sc_Works_scan.nd rfl (by first | exact Or.inl rfl | exact Or.inr rfl) (pe_lst pa_nil))
        (pss_cons (ps_for (L2.passes_of rfl) rfl (pi_tup (pe_fld (pe_fld (pv 0) rfl) rfl)) (pg_name (i := 5) sc_Works_scan.nd rfl (by first | exact Or.inl rfl | exact Or.inr rfl)) (pss_cons (ps_set (i := 6) sc_Works_scan.nd rfl (by first | exact Or.inl rfl | exact Or.inr rfl) (pe_methD G_holds hr pass0 (pe_fld (pv 5) rfl) (pa_cons (pe_fld (pv 0) rfl) pa_nil)))
          (pss_cons (ps_expr (pe_methD G_act hr pass0 (pv 0) (pa_cons (pe_fld (pv 5) rfl) (pa_cons (pv 6) pa_nil))))
          (pss_one (ps_expr (pe_bm PySem.F.plainAttrs_list PySem.F.slot_list_append PySem.F.type_list_append mt_append (pv 4) (pa_cons (pv 6) pa_nil)))))))
        (pss_one (ps_ret (pe_callTy call_tuple_of (by rfl) T.z_tuple (show PySem.bootBuiltins "tuple" = some (.type "tuple") by decide +kernel) (pa_cons (pv 4) pa_nil)))))))), ?_⟩
    walk_at "rd"
    refine ⟨_, rfl, x, _, dx, _, _, rfl, hx, T.wk.c_Works.cl, T.wk.nl_wk, lkW1, lv, r, l, ws, rfl, hl, hs, hf, fun hlen hbl => ?_, qx⟩
    obtain ⟨row, rfl⟩ := bools_of hbl
    rw [List.length_map] at hlen
    have q := q row rfl hlen
    clear qx
    have hne := AtW.ne ⟨dx, lv, hx⟩ ht
    obtain ⟨al, dl, ti, tt, tr, us, rfl, hal, h1, h2, h3, h4⟩ := id hl
    have kx : ∀ {H' : Hp}, But3 b c s H H' → H' x = some (.ins C dx (wkF (.ref al) b c s)) := fun k => k _ _ hx hne.1 hne.2.1 hne.2.2
    have kal : ∀ {H' : Hp}, But3 b c s H H' → H' al = _ := fun k => k.imm (T := cs.has) ht _ _ hal (.inr (.inr (.inr rfl)))
    refine ⟨_, rfl, x, _, dx, _, _, rfl, hx, T.wk.c_Works.cl, T.wk.nl_wk, lkW1, al, _, dl, _, _, rfl, hal, T.wk.lad.c_Ladder.cl, T.wk.lad.ni_ld, lkL1, _, rfl, ti, r, l.ins.map V.str, row.map V.bl, rfl, h1.seq, ?_⟩
    refine for_zipM (by rw [List.length_map, List.length_map]; omega) (fun i σ H' => ∃ v2 v3 : Option V, σ = [some (.ref x), some (.ref r), v2, v3, none, none, none] ∧ But3 b c s H H' ∧ Tri H' b c s ⟨putRow u.bits ((l.ins.zip row).take i), u.cnt, u.seen⟩) ⟨none, none, rfl, But3.refl _, ht⟩ (fun i σ H' ⟨_, _, _, k, _⟩ => k.sqT ht h1.seq) ?_ ?_ ?_
    · rcases hs with hs | hs
      · exact .inl fun i σ H' ⟨_, _, _, k, _⟩ => k.sqL ht hs
      · exact .inr fun i σ H' ⟨_, _, _, k, _⟩ => k.sqT ht hs
    · rintro i nv bv t σ H1 hn hb ⟨v2, v3, rfl, k1, t1⟩ nt
      rw [List.getElem?_map] at hn hb
      obtain ⟨n, hn', rfl⟩ := Option.map_eq_some_iff.mp hn
      obtain ⟨bb, hb', rfl⟩ := Option.map_eq_some_iff.mp hb
      have k2 := k1.trans (Same.but3 (Same.new (o := .tup [.str n, .bl bb]) nt))
      have t2 := t1.keep (Same.new (o := .tup [.str n, .bl bb]) nt)
      have htt : upd H1 t (.tup [.str n, .bl bb]) t = some (.tup [.str n, .bl bb]) := upd_same
      generalize upd H1 t (.tup [.str n, .bl bb]) = H2 at k2 t2 htt
      refine ⟨t, _, rfl, SqT.of htt, rfl, ?_⟩
      walk_at "rd"
      have hz : (l.ins.zip row)[i]? = some (n, bb) := List.getElem?_zip_eq_some.mpr ⟨hn', hb'⟩
      have hbl := (hfit.row row).bits_len
      have hkl : (putRow u.bits ((l.ins.zip row).take i)).length = u.bits.length := by
        have := congrArg List.length (putRow_keys u.bits ((l.ins.zip row).take i) (fun p hp => by
          rw [hfit.kb]
          exact List.mem_append_left _ (List.of_mem_zip (List.mem_of_mem_take hp)).1))
        rw [len_keys, len_keys] at this
        exact this
      have hub := hfit.bits_len
      refine ⟨_, rfl, _, rfl, x, _, dx, _, _, rfl, kx k2, T.wk.c_Works.cl, T.wk.nb_wk, lkW2, _, rfl, b, _, rfl, DPut.k (k := .inr n) t2.hb (by rw [dL_len, sizeLine_eq]; show (putRow _ _).length < _; omega), _, _, rfl, k2.trans But3.ub, ?_⟩
      have q2 := t2.putB (putL (putRow u.bits ((l.ins.zip row).take i)) n bb)
      rw [← dL_put] at q2
      rw [List.take_succ, hz]
      show Tri _ _ _ _ ⟨putRow u.bits ((l.ins.zip row).take i ++ [(n, bb)]), _, _⟩
      rw [putRow_snoc]
      exact q2
    rintro σ H1 ⟨v2, v3, rfl, k1, t1⟩
    rw [List.length_map, List.take_of_length_le (by rw [List.length_zip]; omega)] at t1
    walk_at "rd"
    refine ⟨Nat.zero_le _, fun p np => ?_⟩
    have k2 := k1.trans (Same.but3 (Same.new (o := .lst []) np))
    have t2 := t1.keep (Same.new (o := .lst []) np)
    have hp2 : upd H1 p (.lst []) p = some (.lst []) := upd_same
    have pn : H p = none := k1.free t1 np
    show tFor _ _ _ _ _ (upd H1 p (.lst []))
    generalize upd H1 p (.lst []) = H2 at k2 t2 hp2
    have hlen2 := h4.length
    have pb : p ≠ b := fun e => by rw [e, t2.hb] at hp2; cases hp2
    have pc : p ≠ c := fun e => by rw [e, t2.hc] at hp2; cases hp2
    have ps : p ≠ s := fun e => by rw [e, t2.hs] at hp2; cases hp2
    refine ⟨_, rfl, x, _, dx, _, _, rfl, kx k2, T.wk.c_Works.cl, T.wk.nl_wk, lkW1, al, _, dl, _, _, rfl, kal k2, T.wk.lad.c_Ladder.cl, T.wk.lad.nr_ld, lkL3, tr, rfl, ⟨_, k2.sqT ht h3.seq⟩,
      for_tup (K := K) (a := tr) (xs := us) (fun i σ H' => ∃ v5 v6 : Option V, σ = [some (.ref x), some (.ref r), v2, v3, some (.ref p), v5, v6] ∧ But3 b c s H H' ∧ Tri H' b c s (goRungs ⟨putRow u.bits (l.ins.zip row), u.cnt, u.seen⟩ (l.rs.take i)).1 ∧ H' p = some (.lst ((goRungs ⟨putRow u.bits (l.ins.zip row), u.cnt, u.seen⟩ (l.rs.take i)).2.map V.bl)))
        ⟨none, none, rfl, k2, t2, hp2⟩ (fun i σ H' _ ⟨_, _, _, k, _⟩ => k.sqT ht h3.seq) ?_ ?_⟩
    · rintro i y σ H3 hy ⟨v5, v6, rfl, k3, t3, hp3⟩
      obtain ⟨g, hg, gx, gd, gp, ge, rfl, hgx, hgp, hge⟩ := h4.at hy
      have him := k3.imm (T := cs.has) ht
      have hgm := List.mem_of_getElem? hg
      have hfi := (hfit.row row).go i
      obtain ⟨ga, gC, gdx, gfs, rfl, hga, hgC, hgl⟩ := meth_of (m := "holds") (by decide +kernel) hgp
      have hgp3 := hgp.mono (him.less fun _ q => .inl q)
      have hga3 := him _ _ hga (.inl hgC)
      have hgx3 := him _ _ hgx (.inr (.inr (.inl rfl)))
      have hbl := hfi.bits_len
      have hbk := hfi.kb
      have hcl := hfi.cnt_len
      have hsl := hfi.seen_len
      rw [List.take_succ, hg]
      generalize hG : goRungs ⟨putRow u.bits (l.ins.zip row), u.cnt, u.seen⟩ (l.rs.take i) = G at t3 hp3 hfi hbl hbk hcl hsl
      have hGl : G.2.length = (l.rs.take i).length := by rw [← hG]; exact goRungs_len _ _
      rw [List.length_take] at hGl
      show gName 5 _ _ _ fun σ2 H2 => tSeq _ _ { nx := fun σ H' => ∃ v5 v6 : Option V, σ = [some (.ref x), some (.ref r), v2, v3, some (.ref p), v5, v6] ∧ But3 b c s H H' ∧ Tri H' b c s (goRungs ⟨putRow u.bits (l.ins.zip row), u.cnt, u.seen⟩ (l.rs.take i ++ [g])).1 ∧ H' p = some (.lst ((goRungs ⟨putRow u.bits (l.ins.zip row), u.cnt, u.seen⟩ (l.rs.take i ++ [g])).2.map V.bl)), rt := Q, bk := _, ct := _ } σ2 H2
      rw [goRungs_snoc, hG]
      walk_at "rd"
      have hnd : (keysL G.1.bits).Nodup := by
        rw [hbk, List.nodup_append]
        exact ⟨f2, writ_nodup _, fun a ha b hb e => f6 a ha (by rw [e]; exact hb)⟩
      have hgood := good_bits hnd (by omega)
      refine ⟨_, rfl, gx, _, gd, _, _, rfl, hgx3, T.wk.lad.c_Rung.cl, T.wk.lad.np_rg, lkR1, ga, gC, gdx, gfs, rfl, hga3, hgC, hgl, ?_⟩
      refine ⟨_, rfl, x, _, dx, _, _, rfl, kx k3, T.wk.c_Works.cl, T.wk.nb_wk, lkW2, ga, gdx, b, gfs, g.c, dL V.bl G.1.bits, rfl, hga3, hgp3, t3.hb, hgood, (hsz g hgm).2, Nat.le_trans (hsz g hgm).1 (by decide), fun H4 s4 => ?_⟩
      have k4 := k3.trans (Same.but3 s4)
      have t4 := t3.keep s4
      have hge4 := hge.mono ((k4.imm (T := cs.has) ht).less fun _ q => .inr (.inl q))
      rw [im_bits G.1.bits G.1.cnt G.1.seen]
      refine ⟨_, rfl, x, C, dx, _, rfl, kx k4, rfl, lkWn (by decide +kernel), _, rfl, gx, _, gd, _, _, rfl, s4 _ _ hgx3, T.wk.lad.c_Rung.cl, T.wk.lad.ne_rg, lkR2, _, rfl, ?_⟩
      refine ⟨x, b, c, s, ge, g.e, g.c.holds G.1.im, G.1, rfl, ⟨dx, .ref al, kx k4⟩, t4, hge4, hfi.bit hgm, hfi.cnt hgm, hfi.seen hgm, by omega, by omega, by omega, fun H5 k5 t5 => ?_⟩
      have hp5 := k5 _ _ (s4 _ _ hp3) pb pc ps
      unfold tBM
      walk_at "rd"
      refine ⟨.inl ⟨rfl, _, SqL.of hp5⟩, p, _, _, rfl, rfl, hp5, by rw [List.length_map, sizeLine_eq]; omega, _, _, ⟨rfl, rfl⟩, (k4.trans k5).off pn, t5.off pb pc ps, ?_⟩
      rw [upd_same, List.map_append]
      rfl
    · rintro σ H3 ⟨v5, v6, rfl, k3, t3, hp3⟩
      rw [hlen2, List.take_length] at t3 hp3
      walk_at "rd"
      refine ⟨_, .inl ⟨SqL.of hp3, fun t nt => ?_⟩⟩
      exact q _ t (k3.trans (Same.but3 (Same.new nt))) (k3.free t3 nt) (t3.keep (Same.new nt)) upd_same
end

--%% N10
/-! ## works: what is asked -/
abbrev s_Works_bit : Stmt := inClass (top 25) 4
theorem sc_Works_bit : FnScope ["self", "name"] ["self", "name"] (defScope s_Works_bit) := ⟨rfl, rfl, rfl, by decide +kernel, rfl, by decide +kernel, by decide +kernel⟩
abbrev s_Works_count : Stmt := inClass (top 25) 5
theorem sc_Works_count : FnScope ["self", "name"] ["self", "name"] (defScope s_Works_count) := ⟨rfl, rfl, rfl, by decide +kernel, rfl, by decide +kernel, by decide +kernel⟩
structure TAsk (K : PySem.W.Frag) (mg : Str → Option Value) (cs : Cs) (cc : Addr) (xc : Xc) (cw : Addr) : Prop where
  wk : TWorks K mg cs cc xc cw
  m_bit : MethAt K cw "bit" "Works.bit" s_Works_bit ["self", "name"]
  m_count : MethAt K cw "count" "Works.count" s_Works_count ["self", "name"]
section
variable {P : Program} {w : World} {K : PySem.W.Frag} {mg : Str → Option Value} {base : Heap} {cs : Cs} {cc : Addr} {xc : Xc} {cw : Addr}
def spBit (cw : Addr) (xc : Xc) : Sp := fun vs H Q E => ∃ (x dx b c s : Addr) (lv : V) (u : Ws) (n : Str), vs = [.ref x, .str n] ∧ H x = some (.ins cw dx (wkF lv b c s)) ∧ Tri H b c s u ∧ (∀ v, getL u.bits n = some v → Q (.bl v) H) ∧ (n ∉ keysL u.bits → E (.ref xc.name) none H)
theorem disp_bit (T : TAsk K mg cs cc xc cw) : DispAt P w K mg base (L2.CX P w) (fun C => C = cw) "bit" 1 ["self", "name"] (fun _ => spBit cw xc) := by
  have e_NoName := T.wk.lad.exs.e_name
  refine ⟨fun C hC => ?_⟩
  subst hC
  refine methAt_okX T.wk.c_Works.cl T.m_bit sc_Works_bit (fun vs H Q E h => ?_) (fun f cdv A outer st H vs Q E hr h => ?_)
  · obtain ⟨x, dx, b, c, s, lv, u, n, rfl, _⟩ := h; rfl
  · obtain ⟨x, dx, b, c, s, lv, u, n, rfl, hx, ht, q, qx⟩ := h
    have hu := hu_of hr
    refine ⟨_, (pss_cons (ps_if (pt_cmp (pc_dnotin hu (pv 1) (pe_fld (pv 0) rfl))) (pss_one (ps_raiseO rfl e_NoName (L2.takes_of rfl rfl rfl rfl))) pss_nil)
        (pss_one (ps_ret (pe_dget (by exact hu) (pe_fld (pv 0) rfl) (pv 1) (fun _ _ => rfl))))), ?_⟩
    walk_at "rd"
    refine ⟨_, rfl, _, rfl, x, _, dx, _, _, rfl, hx, T.wk.c_Works.cl, T.wk.nb_wk, lkW2, b, valV (dL V.bl u.bits) (.inr n : Key), rfl, .inl ⟨_, .inr n, .inl ht.hb, rfl, rfl⟩, _, rfl, ?_⟩
    rw [dL_get]
    by_cases h : n ∈ keysL u.bits
    · obtain ⟨v, hv⟩ := getL_mem.mpr h
      rw [hv]
      exact iteF ⟨_, rfl, x, _, dx, _, _, rfl, hx, T.wk.c_Works.cl, T.wk.nb_wk, lkW2, _, rfl, b, _, rfl, .inl ⟨_, .inr n, .inl ht.hb, rfl, by rw [dL_get, hv]; rfl⟩, q v hv⟩
    · rw [getL_none.mpr h]
      exact iteT (qx h)
def spCount (cw : Addr) (xc : Xc) : Sp := fun vs H Q E => ∃ (x dx b c s : Addr) (lv : V) (u : Ws) (n : Str), vs = [.ref x, .str n] ∧ H x = some (.ins cw dx (wkF lv b c s)) ∧ Tri H b c s u ∧ (∀ v, getL u.cnt n = some v → Q (.int v) H) ∧ (n ∉ keysL u.cnt → E (.ref xc.name) none H)
theorem disp_count (T : TAsk K mg cs cc xc cw) : DispAt P w K mg base (L2.CX P w) (fun C => C = cw) "count" 1 ["self", "name"] (fun _ => spCount cw xc) := by
  have e_NoName := T.wk.lad.exs.e_name
  refine ⟨fun C hC => ?_⟩
  subst hC
  refine methAt_okX T.wk.c_Works.cl T.m_count sc_Works_count (fun vs H Q E h => ?_) (fun f cdv A outer st H vs Q E hr h => ?_)
  · obtain ⟨x, dx, b, c, s, lv, u, n, rfl, _⟩ := h; rfl
  · obtain ⟨x, dx, b, c, s, lv, u, n, rfl, hx, ht, q, qx⟩ := h
    have hu := hu_of hr
    refine ⟨_, (pss_cons (ps_if (pt_cmp (pc_dnotin hu (pv 1) (pe_fld (pv 0) rfl))) (pss_one (ps_raiseO rfl e_NoName (L2.takes_of rfl rfl rfl rfl))) pss_nil)
        (pss_one (ps_ret (pe_dget (by exact hu) (pe_fld (pv 0) rfl) (pv 1) (fun _ _ => rfl))))), ?_⟩
    walk_at "rd"
    refine ⟨_, rfl, _, rfl, x, _, dx, _, _, rfl, hx, T.wk.c_Works.cl, T.wk.nc_wk, lkW3, c, valV (dL V.int u.cnt) (.inr n : Key), rfl, .inl ⟨_, .inr n, .inl ht.hc, rfl, rfl⟩, _, rfl, ?_⟩
    rw [dL_get]
    by_cases h : n ∈ keysL u.cnt
    · obtain ⟨v, hv⟩ := getL_mem.mpr h
      rw [hv]
      exact iteF ⟨_, rfl, x, _, dx, _, _, rfl, hx, T.wk.c_Works.cl, T.wk.nc_wk, lkW3, _, rfl, c, _, rfl, .inl ⟨_, .inr n, .inl ht.hc, rfl, by rw [dL_get, hv]; rfl⟩, q v hv⟩
    · rw [getL_none.mpr h]
      exact iteT (qx h)
end

--%% N11
/-! ## images -/
theorem put_len (kvs : List (Key × V)) (k : Key) (x : V) : (putK kvs k x).length ≤ kvs.length + 1 := by
  unfold putK
  split
  · rw [List.length_map]; omega
  · rw [List.length_append, List.length_singleton]; omega
theorem GoodD.put {kvs : List (Key × V)} (g : GoodD kvs) (hl : kvs.length < 100) (k : Key) (b : Bool) : GoodD (putK kvs k (.bl b)) := by
  refine ⟨fun p hp => ?_, by have := put_len kvs k (V.bl b); omega⟩
  rw [valV_put]
  unfold putK at hp
  split at hp
  · obtain ⟨q, hq, e⟩ := List.mem_map.mp hp
    by_cases h : q.1 = k
    · rw [if_pos h] at e
      subst e
      rw [if_pos h]
      exact ⟨rfl, b, rfl⟩
    · rw [if_neg h] at e
      subst e
      rw [if_neg h]
      exact g.1 _ hq
  · rename_i hn
    rcases List.mem_append.mp hp with hp | hp
    · by_cases h : p.1 = k
      · exfalso
        apply hn
        rw [List.any_eq_true]
        exact ⟨p, hp, decide_eq_true h⟩
      · rw [if_neg h]
        exact g.1 p hp
    · rw [List.mem_singleton.mp hp, if_pos rfl]
      exact ⟨rfl, b, rfl⟩
theorem le_put {j : Nat} (kvs : List (Key × V)) (n : Str) (x : V) (h : kvs.length ≤ j) : (putK kvs (Sum.inr n : Key) x).length ≤ j + 1 := by
  have := put_len kvs (Sum.inr n) x
  omega
theorem no_false (f : Im) : ∀ cs : List Cond, (!inV (.bl false) (cs.map fun c => V.bl (c.holds f))) = Cond.alls f cs
  | [] => rfl
  | c :: cs => by
    have ih := no_false f cs
    unfold inV at ih ⊢
    rw [List.map_cons, List.any_cons, Bool.not_or, ih, Cond.alls]
    cases c.holds f <;> simp [eqV]
theorem some_true (f : Im) : ∀ cs : List Cond, inV (.bl true) (cs.map fun c => V.bl (c.holds f)) = Cond.anys f cs
  | [] => rfl
  | c :: cs => by
    have ih := some_true f cs
    unfold inV at ih ⊢
    rw [List.map_cons, List.any_cons, ih, Cond.anys]
    cases c.holds f <;> simp [eqV]

/-! ## the law's own reading -/
abbrev s__law_holds : Stmt := top 60
theorem sc__law_holds : FnScope ["_law_told_here", "_law_bits", "_law_truths_here", "_law_one"] ["_law_told_here", "_law_bits"] (defScope s__law_holds) := ⟨rfl, rfl, rfl, by decide +kernel, rfl, by decide +kernel, by decide +kernel⟩
structure TLH (K : PySem.W.Frag) (mg : Str → Option Value) : Prop where
  d_lholds : DefAt K mg "_law_holds" s__law_holds ["_law_told_here", "_law_bits"]
theorem k_fx (c : Cond) : decide (V.str (kindS c) = V.str "fixed") = (match c with | .fixed _ => true | _ => false) := by
  cases c with
  | fixed b => rfl
  | contact b => exact decide_eq_false (by show ¬ (V.str (Str.ofString "contact") = V.str (Str.ofString "fixed")); decide +kernel)
  | not b => exact decide_eq_false (by show ¬ (V.str (Str.ofString "not") = V.str (Str.ofString "fixed")); decide +kernel)
  | grp s cs =>
    cases s
    · exact decide_eq_false (by show ¬ (V.str (Str.ofString "or") = V.str (Str.ofString "fixed")); decide +kernel)
    · exact decide_eq_false (by show ¬ (V.str (Str.ofString "and") = V.str (Str.ofString "fixed")); decide +kernel)
theorem k_ct (c : Cond) : decide (V.str (kindS c) = V.str "contact") = (match c with | .contact _ => true | _ => false) := by
  cases c with
  | fixed b => exact decide_eq_false (by show ¬ (V.str (Str.ofString "fixed") = V.str (Str.ofString "contact")); decide +kernel)
  | contact b => rfl
  | not b => exact decide_eq_false (by show ¬ (V.str (Str.ofString "not") = V.str (Str.ofString "contact")); decide +kernel)
  | grp s cs =>
    cases s
    · exact decide_eq_false (by show ¬ (V.str (Str.ofString "or") = V.str (Str.ofString "contact")); decide +kernel)
    · exact decide_eq_false (by show ¬ (V.str (Str.ofString "and") = V.str (Str.ofString "contact")); decide +kernel)
theorem k_tn (c : Cond) : decide (V.str (kindS c) = V.str "not") = (match c with | .not _ => true | _ => false) := by
  cases c with
  | fixed b => exact decide_eq_false (by show ¬ (V.str (Str.ofString "fixed") = V.str (Str.ofString "not")); decide +kernel)
  | contact b => exact decide_eq_false (by show ¬ (V.str (Str.ofString "contact") = V.str (Str.ofString "not")); decide +kernel)
  | not b => rfl
  | grp s cs =>
    cases s
    · exact decide_eq_false (by show ¬ (V.str (Str.ofString "or") = V.str (Str.ofString "not")); decide +kernel)
    · exact decide_eq_false (by show ¬ (V.str (Str.ofString "and") = V.str (Str.ofString "not")); decide +kernel)
theorem k_an (s : Bool) : decide (V.str (word s) = V.str "and") = s := by
  cases s
  · exact decide_eq_false (by show ¬ (V.str (Str.ofString "or") = V.str (Str.ofString "and")); decide +kernel)
  · rfl
section
variable {P : Program} {w : World} {K : PySem.W.Frag} {mg : Str → Option Value} {base : Heap}
def spLHolds (n : Nat) : Sp := fun vs H Q _ => ∃ (v : V) (d : Addr) (c : Cond) (kvs : List (Key × V)), vs = [v, .ref d] ∧ IsT H v c ∧ H d = some (.dK kvs) ∧ GoodD kvs ∧ c.depth ≤ n ∧ c.size ≤ 1000 ∧ ∀ H' : Hp, Same H H' → Q (.bl (c.holds (imF kvs))) H'
theorem ok_lholds (T : TLH K mg) : ∀ n : Nat, FnAt P w K mg base CX0 "_law_holds" (n + 1) ["_law_told_here", "_law_bits"] (spLHolds n)
  | 0 => by
    refine fnAt_ok T.d_lholds sc__law_holds (fun vs H Q E h => ?_) (fun f cdv A outer s H vs Q E hr h => ?_)
    · obtain ⟨v, d, c, kvs, rfl, _⟩ := h; rfl
    · obtain ⟨v, d, c, kvs, rfl, p, _, _, hd, _⟩ := h
      exact absurd c.depth_pos (by omega)
  | n + 1 => by
    have G__law_holds := ok_lholds T n
    refine fnAt_ok T.d_lholds sc__law_holds (fun vs H Q E h => ?_) (fun f cdv A outer s H vs Q E hr h => ?_)
    · obtain ⟨v, d, c, kvs, rfl, _⟩ := h; rfl
    · obtain ⟨v, d, c, kvs, rfl, p, hD, hg, hd, hz, k⟩ := h
      have hu := hu_of hr
      refine ⟨_, (pss_cons (ps_if (pt_cmpR op_eq (pe_ix ix_tup (pv 0) pe_int (fun _ _ => rfl)) pe_str (nomark _)) (pss_one (ps_ret (pe_ix ix_tup (pv 0) pe_int (fun _ _ => rfl)))) pss_nil)
        (pss_cons (ps_if (pt_cmpR op_eq (pe_ix ix_tup (pv 0) pe_int (fun _ _ => rfl)) pe_str (nomark _)) (pss_one (ps_ret (pe_dget2 hu (pv 1) (pe_ix ix_tup (pv 0) pe_int (fun _ _ => rfl)) pe_bl (by constructor <;> rfl)))) pss_nil)
        (pss_cons (ps_if (pt_cmpR op_eq (pe_ix ix_tup (pv 0) pe_int (fun _ _ => rfl)) pe_str (nomark _)) (pss_one (ps_ret (pe_not (pe_callF G__law_holds hr pass0 (pa_cons (pe_ix ix_tup (pv 0) pe_int (fun _ _ => rfl)) (pa_cons (pv 1) pa_nil)) (Nat.le_refl _))))) pss_nil)
        (pss_cons (ps_setLc (i := 2) (own := [("_law_one", 3)]) (g := gName 3) (tt := tYes) rfl sc__law_holds.nd rfl rfl (sw_true rfl rfl rfl (by decide +kernel)) (pi_tup (pe_slice sl_tup (pv 0) (po_some pe_int) po_none)) (blkOk_by (own := [("_law_one", 3)]) (N := ["_law_told_here", "_law_bits", "_law_truths_here", "_law_one"]) (sc := defScope s__law_holds) (by decide +kernel)) (fun _ _ _ _ _ => pg_name (i := 3) sc__law_holds.nd rfl (Or.inl rfl)) (fun _ _ _ _ _ => pts_nil) (fun _ _ _ _ _ => (pe_callF G__law_holds hr pass0 (pa_cons (pv 3) (pa_cons (pv 1) pa_nil)) (Nat.le_refl _))))
        (pss_one (ps_ret (pe_ifExp (pt_cmpR op_eq (pe_ix ix_tup (pv 0) pe_int (fun _ _ => rfl)) pe_str (nomark _)) (pe_cmpR op_notIn_seq pe_bl (pv 2) rfl) (pe_cmpR op_in_seq pe_bl (pv 2) rfl)))))))), ?_⟩
      walk_at "rd"
      obtain ⟨t, _, rfl, _⟩ := p.ref
      obtain ⟨rest, hsh, hki⟩ := p.shape
      refine ⟨t, _, 0, .str (kindS c), rfl, rfl, SqT.of hsh, atI_int (by decide) rfl, rfl, ?_⟩
      rw [k_fx]
      cases c with
      | fixed b =>
        cases p with
        | fixed h0 => exact iteT ⟨t, _, 1, .bl b, rfl, rfl, SqT.of h0, atI_int (by decide) rfl, k _ (Same.refl _)⟩
      | contact m =>
        cases p with
        | contact h0 =>
          refine iteF ⟨t, _, 0, .str (kindS (.contact m)), rfl, rfl, SqT.of hsh, atI_int (by decide) rfl, rfl, ?_⟩
          rw [k_ct]
          refine iteT ⟨_, rfl, d, rfl, .inl ⟨kvs, .inl hD⟩, _, rfl, t, _, 1, .str m, rfl, rfl, SqT.of h0, atI_int (by decide) rfl, valV kvs (Sum.inr m : Key), .inl ⟨kvs, Sum.inr m, .inl hD, rfl, rfl⟩, ?_⟩
          have k0 := k H (Same.refl _)
          rcases hg.at m with ⟨h1, h2⟩ | h1
          · rw [h1]
            rw [Cond.holds, h2] at k0
            exact k0
          · rw [h1]
            exact k0
      | not c =>
        cases p with
        | @not _ u _ h0 pu =>
          refine iteF ⟨t, _, 0, .str (kindS (.not c)), rfl, rfl, SqT.of hsh, atI_int (by decide) rfl, rfl, ?_⟩
          rw [k_ct]
          refine iteF ⟨t, _, 0, .str (kindS (.not c)), rfl, rfl, SqT.of hsh, atI_int (by decide) rfl, rfl, ?_⟩
          rw [k_tn]
          rw [Cond.depth] at hd
          rw [Cond.size] at hz
          exact iteT ⟨t, _, 1, u, rfl, rfl, SqT.of h0, atI_int (by decide) rfl, u, d, c, kvs, rfl, pu, hD, hg, by omega, by omega, fun H1 s1 => ⟨_, rfl, k _ s1⟩⟩
      | grp s cs =>
        refine iteF ⟨t, _, 0, .str (kindS (.grp s cs)), rfl, rfl, SqT.of hsh, atI_int (by decide) rfl, rfl, ?_⟩
        rw [k_ct]
        refine iteF ⟨t, _, 0, .str (kindS (.grp s cs)), rfl, rfl, SqT.of hsh, atI_int (by decide) rfl, rfl, ?_⟩
        rw [k_tn]
        cases p with
        | @grp _ vs _ _ h0 ps =>
          rw [Cond.depth] at hd
          rw [Cond.size] at hz
          have hl := ps.length
          have hz2 := Cond.len_sizes cs
          refine iteF ⟨_, rfl, 1, rfl, t, _, rfl, SqT.of h0, ?_, fun t1 nt1 => ?_⟩
          · rintro ⟨h1, _⟩
            rw [show (1 : Int) = ((1 : Nat) : Int) from rfl, HT.sIx_nat, List.length_cons] at h1
            omega
          have e2 : cutV (.str (word s) :: vs) (some 1) none = vs := by
            rw [show (1 : Int) = ((1 : Nat) : Int) from rfl, cutV_from]
            rfl
          rw [e2]
          have s1 := Same.new (o := .tup vs) nt1
          refine ⟨t1, rfl, ⟨_, SqT.of upd_same⟩, fun D nD => lc_tup (K := K) (a := t1) (xs := vs) (fun i H' => Same (upd H t1 (.tup vs)) H' ∧ H' D = some (.lst ((cs.map fun c => V.bl (c.holds (imF kvs))).take i)))
            ⟨Same.new nD, upd_same⟩ (fun i H' _ q => SqT.of (q.1 _ _ upd_same)) ?_ ?_⟩
          · rintro i y H2 hy ⟨q1, q2⟩
            obtain ⟨c', hc', p'⟩ := (ps.mono (T := fun _ => False) (Same.imm (s1.trans q1))).at hy
            have hm := List.mem_of_getElem? hc'
            have h1 := Cond.depth_mem hm
            have h2 := Cond.size_mem hm
            refine ⟨rfl, _, rfl, _, rfl, y, d, c', kvs, rfl, p', q1 _ _ (s1 _ _ hD), hg, by omega, by omega, fun H3 s3 => ?_⟩
            exact lc_push (q1.trans s3) nD (s3 _ _ q2) (by rw [List.getElem?_map, hc']; rfl) (by rw [List.length_map]; omega)
          · rintro H2 ⟨q1, q2⟩
            rw [hl, List.take_of_length_le (by simp)] at q2
            have fl : (cs.map fun c => V.bl (c.holds (imF kvs))).all flatV = true := by simp [List.all_map, flatV]
            refine ⟨t, _, 0, .str (word s), rfl, rfl, SqT.of (q1 _ _ (s1 _ _ h0)), atI_int (by decide) rfl, rfl, ?_⟩
            rw [k_an]
            have k0 := k _ (s1.trans q1)
            cases s with
            | true =>
              refine iteT ⟨D, _, rfl, .inl (SqL.of q2), rfl, fl, ?_⟩
              rw [if_pos rfl, no_false]
              rw [Cond.holds] at k0
              exact k0
            | false =>
              refine iteF ⟨D, _, rfl, .inl (SqL.of q2), rfl, fl, ?_⟩
              rw [if_neg Bool.false_ne_true, some_true]
              rw [Cond.holds] at k0
              exact k0
end

--%% N12
/-! ## the law's state: new, an end, a scan -/
abbrev s__law_new : Stmt := top 61
theorem sc__law_new : FnScope ["_law_drawn_here", "_law_bits", "_law_counts", "_law_seen", "_law_name", "_law_told_here", "_law_end_here"] ["_law_drawn_here"] (defScope s__law_new) := ⟨rfl, rfl, rfl, by decide +kernel, rfl, by decide +kernel, by decide +kernel⟩
structure TLNew (K : PySem.W.Frag) (mg : Str → Option Value) : Prop where
  d_new : DefAt K mg "_law_new" s__law_new ["_law_drawn_here"]
def Ek.kindB : Ek → Str
  | .coil => "coil"
  | .latch => "set"
  | .unlatch => "reset"
  | .timer => "timer"
  | .counter => "counter"
/-- an end as a tuple -/
def IsEB (H : Hp) (v : V) (e : EndC) : Prop := ∃ t, v = .ref t ∧ H t = some (.tup ([.str e.k.kindB, .str e.n] ++ if e.k.counts = true then [.int e.m] else []))
theorem eb0 (e : EndC) : atI ([V.str e.k.kindB, .str e.n] ++ if e.k.counts = true then [.int e.m] else []) 0 = some (.str e.k.kindB) := atI_int (by decide) rfl
theorem eb1 (e : EndC) : atI ([V.str e.k.kindB, .str e.n] ++ if e.k.counts = true then [.int e.m] else []) 1 = some (.str e.n) := atI_int (by decide) rfl
theorem eb2 {e : EndC} (h : e.k.counts = true) : atI ([V.str e.k.kindB, .str e.n] ++ if e.k.counts = true then [.int e.m] else []) 2 = some (.int e.m) := by
  rw [if_pos h]
  exact atI_int (by decide) rfl
def IsRB (H : Hp) (v : V) (r : Rg) : Prop := ∃ t x y, v = .ref t ∧ H t = some (.tup [x, y]) ∧ IsT H x r.c ∧ IsEB H y r.e
/-- a drawn ladder -/
def IsDr (K : PySem.W.Frag) (H : Hp) (v : V) (l : Lad) : Prop := ∃ a ti tt p ws, v = .ref a ∧ H a = some (.tup [.ref ti, .ref tt, .ref p]) ∧ Tp K H ti (l.ins.map V.str) ∧ Tp K H tt (l.outs.map V.str) ∧ H p = some (.lst ws) ∧ Two (IsRB H) ws l.rs
/-- all but dicts stay -/
def NoD (H H' : Hp) : Prop := ∀ a o, H a = some o → (∀ kvs, o ≠ .dK kvs) → H' a = some o
theorem Same.noD {H H' : Hp} (s : Same H H') : NoD H H' := fun a o e _ => s a o e
theorem NoD.trans {H H1 H2 : Hp} (k : NoD H H1) (j : NoD H1 H2) : NoD H H2 := fun a o e n => j a o (k a o e n) n
theorem NoD.imm {T : Addr → Prop} {H H' : Hp} (k : NoD H H') : Imm T H H' := fun a o e i => k a o e (fun kvs q => by subst q; exact i)
theorem But3.noD {H H' : Hp} {b c s : Addr} {w : Ws} (k : But3 b c s H H') (t : Tri H b c s w) : NoD H H' := fun a o e n => k a o e
  (fun q => by rw [q, t.hb] at e; cases e; exact n _ rfl) (fun q => by rw [q, t.hc] at e; cases e; exact n _ rfl) (fun q => by rw [q, t.hs] at e; cases e; exact n _ rfl)
theorem NoD.lst {H H' : Hp} {a : Addr} {xs : List V} (k : NoD H H') (h : H a = some (.lst xs)) : H' a = some (.lst xs) := k _ _ h (fun _ q => by cases q)
theorem NoD.tup {H H' : Hp} {a : Addr} {xs : List V} (k : NoD H H') (h : H a = some (.tup xs)) : H' a = some (.tup xs) := k _ _ h (fun _ q => by cases q)
theorem IsEB.mono {T : Addr → Prop} {H H' : Hp} (k : Imm T H H') {v : V} {e : EndC} (p : IsEB H v e) : IsEB H' v e := by
  obtain ⟨t, e1, h⟩ := p
  exact ⟨t, e1, k _ _ h trivial⟩
theorem IsRB.mono {T : Addr → Prop} {H H' : Hp} (k : Imm T H H') {v : V} {r : Rg} (p : IsRB H v r) : IsRB H' v r := by
  obtain ⟨t, x, y, e1, h, h1, h2⟩ := p
  exact ⟨t, x, y, e1, k _ _ h trivial, h1.mono k, h2.mono k⟩
theorem IsDr.mono {K : PySem.W.Frag} {H H' : Hp} (k : NoD H H') {v : V} {l : Lad} (p : IsDr K H v l) : IsDr K H' v l := by
  obtain ⟨a, ti, tt, p, ws, e, h, h1, h2, h3, h4⟩ := p
  have i : Imm (fun _ => False) H H' := k.imm
  exact ⟨a, ti, tt, p, ws, e, k.tup h, h1.mono i, h2.mono i, k.lst h3, h4.mono fun _ _ q => q.mono i⟩
theorem kb_eq (k : Ek) (z : Str) (h : z = "coil" ∨ z = "set" ∨ z = "reset" ∨ z = "timer" ∨ z = "counter") : decide (V.str k.kindB = V.str z) = decide (k.kindB = z) := by rw [decide_eq_decide, V.str.injEq]
theorem kb_coil (k : Ek) : decide (V.str k.kindB = V.str "coil") = decide (k = .coil) := by cases k <;> simp only [Ek.kindB, V.str.injEq] <;> decide +kernel
theorem kb_set (k : Ek) : decide (V.str k.kindB = V.str "set") = decide (k = .latch) := by cases k <;> simp only [Ek.kindB, V.str.injEq] <;> decide +kernel
theorem kb_reset (k : Ek) : decide (V.str k.kindB = V.str "reset") = decide (k = .unlatch) := by cases k <;> simp only [Ek.kindB, V.str.injEq] <;> decide +kernel
theorem kb_timer (k : Ek) : decide (V.str k.kindB = V.str "timer") = decide (k = .timer) := by cases k <;> simp only [Ek.kindB, V.str.injEq] <;> decide +kernel
theorem kb_counter (k : Ek) : decide (V.str k.kindB = V.str "counter") = decide (k = .counter) := by cases k <;> simp only [Ek.kindB, V.str.injEq] <;> decide +kernel
/-- the law's state -/
def IsSt (H : Hp) (v : V) (b c s : Addr) (u : Ws) : Prop := ∃ t, v = .ref t ∧ H t = some (.tup [.ref b, .ref c, .ref s]) ∧ Tri H b c s u
section
variable {P : Program} {w : World} {K : PySem.W.Frag} {mg : Str → Option Value} {base : Heap}
/-- three dicts under way, made where H0 stood -/
structure Wd (H0 H : Hp) (b c s : Addr) (w : Ws) : Prop where
  same : Same H0 H
  tri : Tri H b c s w
  nb : H0 b = none
  nc : H0 c = none
  ns : H0 s = none
theorem Wd.putB {H0 H : Hp} {b c s : Addr} {w : Ws} (i : Wd H0 H b c s w) (l : List (Str × Bool)) : Wd H0 (upd H b (.dK (dL V.bl l))) b c s ⟨l, w.cnt, w.seen⟩ := ⟨Same.mut i.same i.nb, i.tri.putB l, i.nb, i.nc, i.ns⟩
theorem Wd.putC {H0 H : Hp} {b c s : Addr} {w : Ws} (i : Wd H0 H b c s w) (l : List (Str × Int)) : Wd H0 (upd H c (.dK (dL V.int l))) b c s ⟨w.bits, l, w.seen⟩ := ⟨Same.mut i.same i.nc, i.tri.putC l, i.nb, i.nc, i.ns⟩
theorem Wd.putS {H0 H : Hp} {b c s : Addr} {w : Ws} (i : Wd H0 H b c s w) (l : List (Str × Bool)) : Wd H0 (upd H s (.dK (dL V.bl l))) b c s ⟨w.bits, w.cnt, l⟩ := ⟨Same.mut i.same i.ns, i.tri.putS l, i.nb, i.nc, i.ns⟩
theorem Wd.keep {H0 H H' : Hp} {b c s : Addr} {w : Ws} (i : Wd H0 H b c s w) (k : Same H H') : Wd H0 H' b c s w := ⟨i.same.trans k, i.tri.keep k, i.nb, i.nc, i.ns⟩
def spNew (K : PySem.W.Frag) : Sp := fun vs H Q _ => ∃ (v : V) (l : Lad), vs = [v] ∧ IsDr K H v l ∧ l.fair = true ∧ ∀ (H' : Hp) (t b c s : Addr), Wd H H' b c s (wNew l) → H t = none → H' t = some (.tup [.ref b, .ref c, .ref s]) → Q (.ref t) H'
theorem ok_new (T : TLNew K mg) : FnAt P w K mg base CX0 "_law_new" 1 ["_law_drawn_here"] (spNew K) := by
  refine fnAt_ok T.d_new sc__law_new (fun vs H Q E h => ?_) (fun f cdv A outer st H vs Q E hr h => ?_)
  · obtain ⟨v, l, rfl, _⟩ := h; rfl
  · obtain ⟨v, l, rfl, hd, hfair, k⟩ := h
    have hu := hu_of hr
    obtain ⟨f1, f2, f3, f4, f5, f6, f7, f8, f9⟩ := (fair_iff l).mp hfair
    obtain ⟨a, ti, tt, p, ws, rfl, ha, h1, h2, h3, h4⟩ := id hd
    refine ⟨_, (pss_cons (ps_set (i := 1) sc__law_new.nd rfl (by first | exact Or.inl rfl | exact Or.inr rfl) pe_dnewK)
        (pss_cons (ps_set (i := 2) sc__law_new.nd rfl (by first | exact Or.inl rfl | exact Or.inr rfl) pe_dnewK)
        (pss_cons (ps_set (i := 3) sc__law_new.nd rfl (by first | exact Or.inl rfl | exact Or.inr rfl) pe_dnewK)
        (pss_cons (ps_for PassesOwn.never rfl (pi_tup (pe_ix ix_tup (pv 0) pe_int (fun _ _ => rfl))) (pg_name (i := 4) sc__law_new.nd rfl (by first | exact Or.inl rfl | exact Or.inr rfl)) (pss_one (ps_dput hu (pv 1) (pv 4) pe_bl rfl)))
        (pss_cons (ps_for PassesOwn.never rfl (pi_list (pe_ix ix_tup (pv 0) pe_int (fun _ _ => rfl))) (pg_tup rfl (pgs_cons (pg_name (i := 5) sc__law_new.nd rfl (by first | exact Or.inl rfl | exact Or.inr rfl)) (pgs_cons (pg_name (i := 6) sc__law_new.nd rfl (by first | exact Or.inl rfl | exact Or.inr rfl)) pgs_nil))) (C8.pss_cut (ps_if (pt_cmp (pc_dnotin hu (pe_ix ix_tup (pv 6) pe_int (fun _ _ => rfl)) (pv 1))) (pss_one (ps_dput hu (pv 1) (pe_ix ix_tup (pv 6) pe_int (fun _ _ => rfl)) pe_bl rfl)) pss_nil)
          (C8.pss_cut (ps_if (PW.pt (pw_or (pt_cmpR op_eq (pe_ix ix_tup (pv 6) pe_int (fun _ _ => rfl)) pe_str (nomark _)) (pw_or1 (pt_cmpR op_eq (pe_ix ix_tup (pv 6) pe_int (fun _ _ => rfl)) pe_str (nomark _))))) (pss_one (ps_dput hu (pv 2) (pe_ix ix_tup (pv 6) pe_int (fun _ _ => rfl)) pe_int rfl)) pss_nil)
          (pss_one (ps_if (pt_cmpR op_eq (pe_ix ix_tup (pv 6) pe_int (fun _ _ => rfl)) pe_str (nomark _)) (pss_one (ps_dput hu (pv 3) (pe_ix ix_tup (pv 6) pe_int (fun _ _ => rfl)) pe_bl rfl)) pss_nil)))))
        (pss_one (ps_ret (pe_tup (pa_cons (pv 1) (pa_cons (pv 2) (pa_cons (pv 3) pa_nil))))))))))), ?_⟩
    walk_at "rd"
    refine fun b nb c nc s ns => ?_
    have s1 : Same H (upd (upd (upd H b (.dK [])) c (.dK [])) s (.dK [])) := ((Same.new nb).trans (Same.new nc)).trans (Same.new ns)
    have bc : b ≠ c := ne_of_none upd_same nc
    have bs : b ≠ s := ne_of_none (Same.new nc _ _ upd_same) ns
    have cs : c ≠ s := ne_of_none upd_same ns
    have w0 : Wd H (upd (upd (upd H b (.dK [])) c (.dK [])) s (.dK [])) b c s ⟨[], [], []⟩ :=
      ⟨s1, ⟨by rw [upd_ne bs, upd_ne bc, upd_same]; rfl, by rw [upd_ne cs, upd_same]; rfl, by rw [upd_same]; rfl, bc, bs, cs⟩, nb, (Same.new nb).free nc, ((Same.new nb).trans (Same.new nc)).free ns⟩
    show tFor _ _ _ _ _ (upd (upd (upd H b (.dK [])) c (.dK [])) s (.dK []))
    generalize upd (upd (upd H b (.dK [])) c (.dK [])) s (.dK []) = H1 at w0
    have hnd : (l.ins ++ writ l.rs).Nodup := by
      rw [List.nodup_append]
      exact ⟨f2, writ_nodup _, fun a ha b hb e => f6 a ha (by rw [e]; exact hb)⟩
    refine ⟨_, rfl, a, _, 0, .ref ti, rfl, rfl, SqT.of (w0.same _ _ ha), rfl, ti, rfl, ⟨_, (h1.mono (Same.imm0 w0.same)).seq⟩,
      for_tup (K := K) (a := ti) (xs := l.ins.map V.str) (fun i σ H' => ∃ v4 : Option V, σ = [some (.ref a), some (.ref b), some (.ref c), some (.ref s), v4, none, none] ∧ Wd H H' b c s ⟨(l.ins.take i).map fun n => (n, false), [], []⟩) ⟨none, rfl, w0⟩ (fun i σ H' _ ⟨_, _, q⟩ => (h1.mono (Same.imm0 q.same)).seq) ?_ ?_⟩
    · rintro i y σ H' hy ⟨v4, rfl, q⟩
      rw [List.getElem?_map] at hy
      obtain ⟨n, hn, rfl⟩ := Option.map_eq_some_iff.mp hy
      have hi := (List.getElem?_eq_some_iff.mp hn).1
      refine ⟨_, rfl, _, rfl, b, _, rfl, DPut.k (k := .inr n) q.tri.hb (by rw [dL_len, List.length_map, List.length_take, sizeLine_eq]; omega), _, rfl, ?_⟩
      rw [dL_put, map_take_snoc hn f2]
      exact q.putB _
    rintro σ H2 ⟨v4, rfl, q2⟩
    rw [List.length_map, List.take_length] at q2
    have hlen := h4.length
    refine ⟨_, rfl, a, _, 2, .ref p, rfl, rfl, SqT.of (q2.same _ _ ha), rfl, p, rfl, ⟨_, SqL.of (q2.same _ _ h3)⟩,
      for_list (K := K) (a := p) (xs := ws) (fun i σ H' => ∃ v5 v6 : Option V, σ = [some (.ref a), some (.ref b), some (.ref c), some (.ref s), v4, v5, v6] ∧ Wd H H' b c s ⟨(l.ins ++ writ (l.rs.take i)).map fun n => (n, false), cnt0 (l.rs.take i), seen0 (l.rs.take i)⟩) ⟨none, none, rfl, by rw [show writ (l.rs.take 0) = [] from rfl, List.append_nil]; exact q2⟩ (fun i σ H' _ ⟨_, _, _, q⟩ => SqL.of (q.same _ _ h3)) ?_ ?_⟩
    · rintro i y σ H' hy ⟨v5, v6, rfl, q⟩
      obtain ⟨r, hr', t, x, e, rfl, htr, hxc, te, rfl, hte⟩ := h4.at hy
      have hir := (List.getElem?_eq_some_iff.mp hr').1
      have lw := writ_len (l.rs.take i)
      have lc := cnt0_len (l.rs.take i)
      have ls := seen0_len (l.rs.take i)
      rw [List.length_take] at lc ls lw
      rw [List.take_succ, hr', Option.toList_some]
      refine ⟨t, _, rfl, SqT.of (q.same _ _ htr), rfl, ?_⟩
      walk_at "rd"
      have hrm := List.mem_of_getElem? hr'
      have hni : r.e.n ∉ l.ins := fun h => f6 _ h ((writ_mem _).mpr ⟨r, hrm, rfl⟩)
      refine ⟨fun σ' H2 => σ' = [some (.ref a), some (.ref b), some (.ref c), some (.ref s), v4, some x, some (.ref te)] ∧ Wd H H2 b c s ⟨(l.ins ++ writ (l.rs.take i ++ [r])).map fun n => (n, false), cnt0 (l.rs.take i), seen0 (l.rs.take i)⟩, ?_, ?_⟩
      · walk_at "rd"
        refine ⟨_, rfl, te, _, 1, .str r.e.n, rfl, rfl, SqT.of (q.same _ _ hte), eb1 _, _, rfl, b, valV (dL V.bl ((l.ins ++ writ (l.rs.take i)).map fun n => (n, false))) (.inr r.e.n : Key), rfl, .inl ⟨_, .inr r.e.n, .inl q.tri.hb, rfl, rfl⟩, _, rfl, ?_⟩
        rw [dL_get, writ_snoc]
        have ekeys : keysL ((l.ins ++ writ (l.rs.take i)).map fun n => (n, false)) = l.ins ++ writ (l.rs.take i) := by simp [keysL, Function.comp_def]
        by_cases h : r.e.n ∈ writ (l.rs.take i)
        · obtain ⟨v, hv⟩ := getL_mem.mpr (show r.e.n ∈ keysL ((l.ins ++ writ (l.rs.take i)).map fun n => (n, false)) by rw [ekeys]; exact List.mem_append_right _ h)
          rw [hv]
          unfold addW
          rw [if_pos h]
          exact iteF q
        · have hk : r.e.n ∉ keysL ((l.ins ++ writ (l.rs.take i)).map fun n => (n, false)) := by
            rw [ekeys]
            intro hm
            rcases List.mem_append.mp hm with hm | hm
            · exact hni hm
            · exact h hm
          rw [getL_none.mpr hk]
          refine iteT ⟨_, rfl, _, rfl, te, _, 1, .str r.e.n, rfl, rfl, SqT.of (q.same _ _ hte), eb1 _, b, _, rfl, DPut.k (k := .inr r.e.n) q.tri.hb (by rw [dL_len, List.length_map, List.length_append, sizeLine_eq]; omega), rfl, ?_⟩
          unfold addW
          rw [if_neg h]
          have q2 := q.putB (putL ((l.ins ++ writ (l.rs.take i)).map fun n => (n, false)) r.e.n false)
          rw [← dL_put] at q2
          rw [keys_new hk] at q2
          have eb : ((l.ins ++ (writ (l.rs.take i) ++ [r.e.n])).map fun n => (n, false)) = ((l.ins ++ writ (l.rs.take i)).map fun n => (n, false)) ++ [(r.e.n, false)] := by simp
          rw [eb]
          exact q2
      rintro σ2 H2 ⟨rfl, q2⟩
      refine ⟨fun σ' H3 => σ' = [some (.ref a), some (.ref b), some (.ref c), some (.ref s), v4, some x, some (.ref te)] ∧ Wd H H3 b c s ⟨(l.ins ++ writ (l.rs.take i ++ [r])).map fun n => (n, false), cnt0 (l.rs.take i ++ [r]), seen0 (l.rs.take i)⟩, ?_, ?_⟩
      · have put : ∀ {D : Ends}, (∀ {H'}, Wd H H' b c s ⟨(l.ins ++ writ (l.rs.take i ++ [r])).map fun n => (n, false), putL (cnt0 (l.rs.take i)) r.e.n 0, seen0 (l.rs.take i)⟩ → D.nx [some (.ref a), some (.ref b), some (.ref c), some (.ref s), v4, some x, some (.ref te)] H') →
            sDPut (tVar 2) (tOp (rIxT K) (tVar 6) (tC (.int 1))) (tC (.int 0)) D [some (.ref a), some (.ref b), some (.ref c), some (.ref s), v4, some x, some (.ref te)] H2 := by
          intro D n
          refine ⟨_, rfl, _, rfl, te, _, 1, .str r.e.n, rfl, rfl, SqT.of (q2.same _ _ hte), eb1 _, c, _, rfl, DPut.k (k := .inr r.e.n) q2.tri.hc (by rw [dL_len, sizeLine_eq]; simp only; omega), n ?_⟩
          have q3 := q2.putC (putL (cnt0 (l.rs.take i)) r.e.n 0)
          rw [← dL_put] at q3
          exact q3
        walk_at "rd"
        refine ⟨te, _, 0, .str r.e.k.kindB, rfl, rfl, SqT.of (q2.same _ _ hte), eb0 _, rfl, ?_⟩
        rw [kb_timer, cnt0_snoc]
        by_cases ht : r.e.k = .timer
        · rw [decide_eq_true ht, if_pos (show r.e.k.counts = true by rw [ht]; rfl)]
          exact iteT (put fun q => ⟨rfl, q⟩)
        · rw [decide_eq_false ht]
          refine iteF ⟨te, _, 0, .str r.e.k.kindB, rfl, rfl, SqT.of (q2.same _ _ hte), eb0 _, rfl, ?_⟩
          rw [kb_counter]
          by_cases hc : r.e.k = .counter
          · rw [decide_eq_true hc, if_pos (show r.e.k.counts = true by rw [hc]; rfl)]
            exact iteT (put fun q => ⟨rfl, q⟩)
          · have e : r.e.k.counts ≠ true := by
              intro h
              cases hk : r.e.k <;> rw [hk] at h ht hc <;> first | exact ht rfl | exact hc rfl | cases h
            rw [decide_eq_false hc, if_neg e]
            exact iteF q2
      rintro σ3 H3 ⟨rfl, q3⟩
      have put : ∀ {D : Ends}, (∀ {H'}, Wd H H' b c s ⟨(l.ins ++ writ (l.rs.take i ++ [r])).map fun n => (n, false), cnt0 (l.rs.take i ++ [r]), putL (seen0 (l.rs.take i)) r.e.n false⟩ → D.nx [some (.ref a), some (.ref b), some (.ref c), some (.ref s), v4, some x, some (.ref te)] H') →
            sDPut (tVar 3) (tOp (rIxT K) (tVar 6) (tC (.int 1))) (tC (.bl false)) D [some (.ref a), some (.ref b), some (.ref c), some (.ref s), v4, some x, some (.ref te)] H3 := by
          intro D n
          refine ⟨_, rfl, _, rfl, te, _, 1, .str r.e.n, rfl, rfl, SqT.of (q3.same _ _ hte), eb1 _, s, _, rfl, DPut.k (k := .inr r.e.n) q3.tri.hs (by rw [dL_len, sizeLine_eq]; simp only; omega), n ?_⟩
          have q4 := q3.putS (putL (seen0 (l.rs.take i)) r.e.n false)
          rw [← dL_put] at q4
          exact q4
      walk_at "rd"
      refine ⟨te, _, 0, .str r.e.k.kindB, rfl, rfl, SqT.of (q3.same _ _ hte), eb0 _, rfl, ?_⟩
      rw [kb_counter, seen0_snoc]
      by_cases hc : r.e.k = .counter
      · rw [decide_eq_true hc, if_pos hc]
        exact iteT (put fun q => ⟨_, _, rfl, q⟩)
      · rw [decide_eq_false hc, if_neg hc]
        exact iteF ⟨_, _, ⟨rfl, rfl⟩, q3⟩
    · rintro σ H' ⟨v5, v6, rfl, q⟩
      rw [hlen, List.take_length] at q
      walk_at "rd"
      refine ⟨line_ge (by decide), fun t nt => ?_⟩
      exact k _ t b c s (q.keep (Same.new nt)) (q.same.free nt) upd_same
end

/-! ## the law's state: an end, a scan -/
abbrev s__law_act : Stmt := top 62
theorem sc__law_act : FnScope ["_law_state", "_law_end_here", "_law_held", "_law_bits", "_law_counts", "_law_seen"] ["_law_state", "_law_end_here", "_law_held"] (defScope s__law_act) := ⟨rfl, rfl, rfl, by decide +kernel, rfl, by decide +kernel, by decide +kernel⟩
abbrev s__law_scan : Stmt := top 63
theorem sc__law_scan : FnScope ["_law_drawn_here", "_law_state", "_law_row_here", "_law_k", "_law_found", "_law_told_here", "_law_end_here"] ["_law_drawn_here", "_law_state", "_law_row_here"] (defScope s__law_scan) := ⟨rfl, rfl, rfl, by decide +kernel, rfl, by decide +kernel, by decide +kernel⟩
structure TLSt (K : PySem.W.Frag) (mg : Str → Option Value) : Prop where
  nw : TLNew K mg
  lh : TLH K mg
  d_act : DefAt K mg "_law_act" s__law_act ["_law_state", "_law_end_here", "_law_held"]
  d_scan : DefAt K mg "_law_scan" s__law_scan ["_law_drawn_here", "_law_state", "_law_row_here"]
  z_len : mg "len" = none
  z_range : mg "range" = none
  z_min : mg "min" = none
  z_tuple : mg "tuple" = none
section
variable {P : Program} {w : World} {K : PySem.W.Frag} {mg : Str → Option Value} {base : Heap}
def a1 (u : Ws) (e : EndC) (h : Bool) : Ws := if e.k = .coil then ⟨putL u.bits e.n h, u.cnt, u.seen⟩ else u
def a2 (u : Ws) (e : EndC) (h : Bool) : Ws := if h = true ∧ e.k = .latch then ⟨putL u.bits e.n true, u.cnt, u.seen⟩ else u
def a3 (u : Ws) (e : EndC) (h : Bool) : Ws := if h = true ∧ e.k = .unlatch then ⟨putL u.bits e.n false, if e.n ∈ keysL u.cnt then putL u.cnt e.n 0 else u.cnt, u.seen⟩ else u
def a4 (u : Ws) (e : EndC) (h : Bool) : Ws := if e.k = .timer then ⟨u.bits, putL u.cnt e.n (if h = true then min (u.cntOf e.n + 1) e.m else 0), u.seen⟩ else u
def a5 (u : Ws) (e : EndC) (h : Bool) : Ws := if e.k = .counter ∧ h = true ∧ u.seenOf e.n = false then ⟨u.bits, putL u.cnt e.n (min (u.cntOf e.n + 1) e.m), u.seen⟩ else u
def a6 (u : Ws) (e : EndC) (h : Bool) : Ws := if e.k = .counter then ⟨u.bits, u.cnt, putL u.seen e.n h⟩ else u
def a7 (u : Ws) (e : EndC) : Ws := if e.k.counts = true then ⟨putL u.bits e.n (decide (u.cntOf e.n = e.m)), u.cnt, u.seen⟩ else u
theorem act_eq (u : Ws) (e : EndC) (h : Bool) : act u e h = a7 (a6 (a5 (a4 (a3 (a2 (a1 u e h) e h) e h) e h) e h) e h) e := by
  unfold act a7 a6 a5 a4 a3 a2 a1
  cases hk : e.k with
  | coil => simp [Ek.counts]
  | latch => cases h <;> simp [Ek.counts]
  | unlatch => cases h <;> simp [Ek.counts]
  | timer => cases h <;> simp [Ek.counts, Ws.cntOf, getL_put]
  | counter =>
    cases h <;> cases hs : u.seenOf e.n <;> simp [Ek.counts, Ws.cntOf, getL_put, hs]
theorem a2_f {u : Ws} {e : EndC} : a2 u e false = u := if_neg fun z => nomatch z
theorem a2_n {u : Ws} {e : EndC} {h : Bool} (n : e.k ≠ .latch) : a2 u e h = u := if_neg fun z => n z.2
theorem a2_y {u : Ws} {e : EndC} (y : e.k = .latch) : a2 u e true = ⟨putL u.bits e.n true, u.cnt, u.seen⟩ := if_pos ⟨rfl, y⟩
theorem a3_f {u : Ws} {e : EndC} : a3 u e false = u := if_neg fun z => nomatch z
theorem a3_n {u : Ws} {e : EndC} {h : Bool} (n : e.k ≠ .unlatch) : a3 u e h = u := if_neg fun z => n z.2
theorem a3_y {u : Ws} {e : EndC} (y : e.k = .unlatch) : a3 u e true = ⟨putL u.bits e.n false, if e.n ∈ keysL u.cnt then putL u.cnt e.n 0 else u.cnt, u.seen⟩ := if_pos ⟨rfl, y⟩
theorem a4_n {u : Ws} {e : EndC} {h : Bool} (n : e.k ≠ .timer) : a4 u e h = u := if_neg n
theorem a4_y {u : Ws} {e : EndC} {h : Bool} (y : e.k = .timer) : a4 u e h = ⟨u.bits, putL u.cnt e.n (if h = true then min (u.cntOf e.n + 1) e.m else 0), u.seen⟩ := if_pos y
theorem a5_n {u : Ws} {e : EndC} {h : Bool} (n : e.k ≠ .counter) : a5 u e h = u := if_neg fun z => n z.1
theorem a5_f {u : Ws} {e : EndC} : a5 u e false = u := if_neg fun z => nomatch z.2.1
theorem a5_s {u : Ws} {e : EndC} {h : Bool} (y : u.seenOf e.n = true) : a5 u e h = u := if_neg fun z => by rw [y] at z; exact nomatch z.2.2
theorem a5_y {u : Ws} {e : EndC} (y : e.k = .counter) (z : u.seenOf e.n = false) : a5 u e true = ⟨u.bits, putL u.cnt e.n (min (u.cntOf e.n + 1) e.m), u.seen⟩ := if_pos ⟨y, rfl, z⟩
theorem a6_n {u : Ws} {e : EndC} {h : Bool} (n : e.k ≠ .counter) : a6 u e h = u := if_neg n
theorem a6_y {u : Ws} {e : EndC} {h : Bool} (y : e.k = .counter) : a6 u e h = ⟨u.bits, u.cnt, putL u.seen e.n h⟩ := if_pos y
theorem a7_n {u : Ws} {e : EndC} (n : e.k.counts = false) : a7 u e = u := if_neg (by rw [n]; exact Bool.false_ne_true)
theorem a7_y {u : Ws} {e : EndC} (y : e.k.counts = true) : a7 u e = ⟨putL u.bits e.n (decide (u.cntOf e.n = e.m)), u.cnt, u.seen⟩ := if_pos y
def spActL : Sp := fun vs H Q _ => ∃ (t b c s : Addr) (v : V) (e : EndC) (h : Bool) (u : Ws), vs = [.ref t, v, .bl h] ∧ H t = some (.tup [.ref b, .ref c, .ref s]) ∧ Tri H b c s u ∧ IsEB H v e ∧ (e.k.counts = true → e.n ∈ keysL u.cnt) ∧ (e.k = .counter → e.n ∈ keysL u.seen) ∧
  u.bits.length ≤ 100 ∧ u.cnt.length ≤ 100 ∧ u.seen.length ≤ 100 ∧ ∀ H', But3 b c s H H' → Tri H' b c s (act u e h) → Q .non H'
theorem ok_actL (T : TLSt K mg) : FnAt P w K mg base CX0 "_law_act" 1 ["_law_state", "_law_end_here", "_law_held"] spActL := by
  refine fnAt_ok T.d_act sc__law_act (fun vs H Q E h => ?_) (fun f cdv A outer st H vs Q E hr h => ?_)
  · obtain ⟨t, b, c, s, v, e, h, u, rfl, _⟩ := h; rfl
  · obtain ⟨t, b, c, s, v, e, h, u, rfl, htt, ht, he, hc, hs, l1, l2, l3, k⟩ := h
    have hu := hu_of hr
    obtain ⟨te, rfl, hte⟩ := he
    refine ⟨_, (pss_cons (ps_asg (pv 0) (pg_tup rfl (pgs_cons (pg_name (i := 3) sc__law_act.nd rfl (by first | exact Or.inl rfl | exact Or.inr rfl)) (pgs_cons (pg_name (i := 4) sc__law_act.nd rfl (by first | exact Or.inl rfl | exact Or.inr rfl)) (pgs_cons (pg_name (i := 5) sc__law_act.nd rfl (by first | exact Or.inl rfl | exact Or.inr rfl)) pgs_nil)))))
        (C8.pss_cut (ps_if (pt_cmpR op_eq (pe_ix ix_tup (pv 1) pe_int (fun _ _ => rfl)) pe_str (nomark _)) (pss_one (ps_dput hu (pv 3) (pe_ix ix_tup (pv 1) pe_int (fun _ _ => rfl)) (pv 2) rfl)) pss_nil)
        (C8.pss_cut (ps_if (PW.pt (pw_and (pt_val (pv 2)) (pw_and1 (pt_cmpR op_eq (pe_ix ix_tup (pv 1) pe_int (fun _ _ => rfl)) pe_str (nomark _))))) (pss_one (ps_dput hu (pv 3) (pe_ix ix_tup (pv 1) pe_int (fun _ _ => rfl)) pe_bl rfl)) pss_nil)
        (C8.pss_cut (ps_if (PW.pt (pw_and (pt_val (pv 2)) (pw_and1 (pt_cmpR op_eq (pe_ix ix_tup (pv 1) pe_int (fun _ _ => rfl)) pe_str (nomark _))))) (pss_cons (ps_dput hu (pv 3) (pe_ix ix_tup (pv 1) pe_int (fun _ _ => rfl)) pe_bl rfl)
          (pss_one (ps_if (pt_cmp (pc_din hu (pe_ix ix_tup (pv 1) pe_int (fun _ _ => rfl)) (pv 4))) (pss_one (ps_dput hu (pv 4) (pe_ix ix_tup (pv 1) pe_int (fun _ _ => rfl)) pe_int rfl)) pss_nil))) pss_nil)
        (C8.pss_cut (ps_if (pt_cmpR op_eq (pe_ix ix_tup (pv 1) pe_int (fun _ _ => rfl)) pe_str (nomark _)) (pss_one (ps_dput hu (pv 4) (pe_ix ix_tup (pv 1) pe_int (fun _ _ => rfl)) (pe_ifExp (pt_val (pv 2)) (pe_callB (call_min2 rfl) (by rfl) T.z_min (by decide +kernel) (pa_cons (pe_ix ix_tup (pv 1) pe_int (fun _ _ => rfl)) (pa_cons (pe_op op_add (pe_dget (by exact hu) (pv 4) (pe_ix ix_tup (pv 1) pe_int (fun _ _ => rfl)) (fun _ _ => rfl)) pe_int) pa_nil))) pe_int) rfl)) pss_nil)
        (C8.pss_cut (ps_if (PW.pt (pw_and (pt_cmpR op_eq (pe_ix ix_tup (pv 1) pe_int (fun _ _ => rfl)) pe_str (nomark _)) (pw_and (pt_val (pv 2)) (pw_and1 (pt_not (pt_val (pe_dget (by exact hu) (pv 5) (pe_ix ix_tup (pv 1) pe_int (fun _ _ => rfl)) (fun _ _ => rfl)))))))) (pss_one (ps_dput hu (pv 4) (pe_ix ix_tup (pv 1) pe_int (fun _ _ => rfl)) (pe_callB (call_min2 rfl) (by rfl) T.z_min (by decide +kernel) (pa_cons (pe_ix ix_tup (pv 1) pe_int (fun _ _ => rfl)) (pa_cons (pe_op op_add (pe_dget (by exact hu) (pv 4) (pe_ix ix_tup (pv 1) pe_int (fun _ _ => rfl)) (fun _ _ => rfl)) pe_int) pa_nil))) rfl)) pss_nil)
        (C8.pss_cut (ps_if (pt_cmpR op_eq (pe_ix ix_tup (pv 1) pe_int (fun _ _ => rfl)) pe_str (nomark _)) (pss_one (ps_dput hu (pv 5) (pe_ix ix_tup (pv 1) pe_int (fun _ _ => rfl)) (pv 2) rfl)) pss_nil)
        (pss_one (ps_if (PW.pt (pw_or (pt_cmpR op_eq (pe_ix ix_tup (pv 1) pe_int (fun _ _ => rfl)) pe_str (nomark _)) (pw_or1 (pt_cmpR op_eq (pe_ix ix_tup (pv 1) pe_int (fun _ _ => rfl)) pe_str (nomark _))))) (pss_one (ps_dput hu (pv 3) (pe_ix ix_tup (pv 1) pe_int (fun _ _ => rfl)) (pe_cmpR op_eq (pe_dget (by exact hu) (pv 4) (pe_ix ix_tup (pv 1) pe_int (fun _ _ => rfl)) (fun _ _ => rfl)) (pe_ix ix_tup (pv 1) pe_int (fun _ _ => rfl)) (nomark _)) rfl)) pss_nil))))))))), ?_⟩
    walk_at "rd"
    refine ⟨t, _, rfl, SqT.of htt, rfl, ?_⟩
    walk_at "rd"
    have keep : ∀ {H' : Hp}, But3 b c s H H' → H' te = some (.tup ([.str e.k.kindB, .str e.n] ++ if e.k.counts = true then [.int e.m] else [])) := fun k => (k.noD ht).tup hte
    have kd : ∀ {H' : Hp}, But3 b c s H H' → SqT K H' te ([.str e.k.kindB, .str e.n] ++ if e.k.counts = true then [.int e.m] else []) := fun k => SqT.of (keep k)
    rw [act_eq] at k
    refine ⟨fun σ' H1 => σ' = [some (.ref t), some (.ref te), some (.bl h), some (.ref b), some (.ref c), some (.ref s)] ∧ But3 b c s H H1 ∧ Tri H1 b c s (a1 u e h), ?_, ?_⟩
    · walk_at "rd"
      refine ⟨te, _, 0, .str e.k.kindB, rfl, rfl, kd (But3.refl _), eb0 _, rfl, ?_⟩
      rw [kb_coil]
      unfold a1
      by_cases hk : e.k = .coil
      · rw [decide_eq_true hk, if_pos hk]
        refine iteT ⟨_, rfl, _, rfl, _, rfl, te, _, 1, .str e.n, rfl, rfl, kd (But3.refl _), eb1 _, b, _, rfl, DPut.k (k := .inr e.n) ht.hb (by rw [dL_len, sizeLine_eq]; omega), rfl, But3.ub, ?_⟩
        have q := ht.putB (putL u.bits e.n h)
        rw [← dL_put] at q
        exact q
      · rw [decide_eq_false hk, if_neg hk]
        exact iteF ⟨But3.refl _, ht⟩
    have l1a : (a1 u e h).bits.length ≤ 101 ∧ (a1 u e h).cnt = u.cnt ∧ (a1 u e h).seen = u.seen := by
      unfold a1
      split
      · exact ⟨by have := put_le (l := u.bits) (n := e.n) (v := h); simp only; omega, rfl, rfl⟩
      · exact ⟨by omega, rfl, rfl⟩
    generalize a1 u e h = u1 at k l1a
    obtain ⟨l1b, ec1, es1⟩ := l1a
    rintro σ1 H1 ⟨rfl, b1, t1⟩
    refine ⟨fun σ' H2 => σ' = [some (.ref t), some (.ref te), some (.bl h), some (.ref b), some (.ref c), some (.ref s)] ∧ But3 b c s H H2 ∧ Tri H2 b c s (a2 u1 e h), ?_, ?_⟩
    · walk_at "rd"
      cases h with
      | false =>
        rw [a2_f]
        exact iteF ⟨b1, t1⟩
      | true =>
        refine iteT ⟨te, _, 0, .str e.k.kindB, rfl, rfl, kd b1, eb0 _, rfl, ?_⟩
        rw [kb_set]
        by_cases hk : e.k = .latch
        · rw [decide_eq_true hk, a2_y hk]
          refine iteT ⟨_, rfl, _, rfl, te, _, 1, .str e.n, rfl, rfl, kd b1, eb1 _, b, _, rfl, DPut.k (k := .inr e.n) t1.hb (by rw [dL_len, sizeLine_eq]; omega), rfl, b1.trans But3.ub, ?_⟩
          have q := t1.putB (putL u1.bits e.n true)
          rw [← dL_put] at q
          exact q
        · rw [decide_eq_false hk, a2_n hk]
          exact iteF ⟨b1, t1⟩
    have l2a : (a2 u1 e h).bits.length ≤ 102 ∧ (a2 u1 e h).cnt = u.cnt ∧ (a2 u1 e h).seen = u.seen := by
      unfold a2
      split
      · exact ⟨by have := put_le (l := u1.bits) (n := e.n) (v := true); simp only; omega, ec1, es1⟩
      · exact ⟨by omega, ec1, es1⟩
    generalize a2 u1 e h = u2 at k l2a
    obtain ⟨l2b, ec2, es2⟩ := l2a
    rintro σ2 H2 ⟨rfl, b2, t2⟩
    refine ⟨fun σ' H3 => σ' = [some (.ref t), some (.ref te), some (.bl h), some (.ref b), some (.ref c), some (.ref s)] ∧ But3 b c s H H3 ∧ Tri H3 b c s (a3 u2 e h), ?_, ?_⟩
    · walk_at "rd"
      cases h with
      | false =>
        rw [a3_f]
        exact iteF ⟨b2, t2⟩
      | true =>
        refine iteT ⟨te, _, 0, .str e.k.kindB, rfl, rfl, kd b2, eb0 _, rfl, ?_⟩
        rw [kb_reset]
        by_cases hk : e.k = .unlatch
        · rw [decide_eq_true hk, a3_y hk]
          refine iteT ⟨_, rfl, _, rfl, te, _, 1, .str e.n, rfl, rfl, kd b2, eb1 _, b, _, rfl, DPut.k (k := .inr e.n) t2.hb (by rw [dL_len, sizeLine_eq]; omega), ?_⟩
          have q := t2.putB (putL u2.bits e.n false)
          rw [← dL_put] at q
          have b3 := b2.trans (But3.ub (b := b) (c := c) (s := s) (H := H2) (o := .dK (putK (dL V.bl u2.bits) (Sum.inr e.n : Key) (V.bl false))))
          generalize upd H2 b (.dK (putK (dL V.bl u2.bits) (Sum.inr e.n : Key) (V.bl false))) = H3 at q b3
          walk_at "rd"
          refine ⟨_, rfl, te, _, 1, .str e.n, rfl, rfl, kd b3, eb1 _, _, rfl, c, valV (dL V.int u2.cnt) (.inr e.n : Key), rfl, .inl ⟨_, .inr e.n, .inl q.hc, rfl, rfl⟩, _, rfl, ?_⟩
          rw [dL_get]
          by_cases hin : e.n ∈ keysL u2.cnt
          · obtain ⟨z, hz⟩ := getL_mem.mpr hin
            rw [hz, if_pos hin]
            refine iteT ⟨_, rfl, _, rfl, te, _, 1, .str e.n, rfl, rfl, kd b3, eb1 _, c, _, rfl, DPut.k (k := .inr e.n) q.hc (by rw [dL_len, sizeLine_eq]; simp only; rw [ec2]; omega), rfl, b3.trans But3.uc, ?_⟩
            have q2 := q.putC (putL u2.cnt e.n 0)
            rw [← dL_put] at q2
            exact q2
          · rw [getL_none.mpr hin, if_neg hin]
            exact iteF ⟨b3, q⟩
        · rw [decide_eq_false hk, a3_n hk]
          exact iteF ⟨b2, t2⟩
    have l3a : (a3 u2 e h).bits.length ≤ 103 ∧ (a3 u2 e h).cnt.length ≤ 101 ∧ (e.k.counts = true → e.n ∈ keysL (a3 u2 e h).cnt) ∧ (a3 u2 e h).seen = u.seen := by
      unfold a3
      split
      · rename_i hz
        refine ⟨by have := put_le (l := u2.bits) (n := e.n) (v := false); simp only; omega, ?_, fun hk => (by rw [hz.2] at hk; cases hk), es2⟩
        simp only
        split
        · have := put_le (l := u2.cnt) (n := e.n) (v := 0)
          rw [ec2] at this ⊢
          omega
        · rw [ec2]
          omega
      · exact ⟨by omega, by rw [ec2]; omega, fun hk => by rw [ec2]; exact hc hk, es2⟩
    generalize a3 u2 e h = u3 at k l3a
    obtain ⟨l3b, l3c, hc3, es3⟩ := l3a
    rintro σ3 H3 ⟨rfl, b3, t3⟩
    refine ⟨fun σ' H4 => σ' = [some (.ref t), some (.ref te), some (.bl h), some (.ref b), some (.ref c), some (.ref s)] ∧ But3 b c s H H4 ∧ Tri H4 b c s (a4 u3 e h), ?_, ?_⟩
    · walk_at "rd"
      refine ⟨te, _, 0, .str e.k.kindB, rfl, rfl, kd b3, eb0 _, rfl, ?_⟩
      rw [kb_timer]
      by_cases hk : e.k = .timer
      · have hkc : e.k.counts = true := by rw [hk]; rfl
        rw [decide_eq_true hk, a4_y hk]
        refine iteT ?_
        have gc : getL u3.cnt e.n = some (u3.cntOf e.n) := by
          obtain ⟨q, hq⟩ := getL_mem.mpr (hc3 hkc)
          unfold Ws.cntOf
          rw [hq]
          rfl
        have fin : ∀ cv : Int, cv = (if h = true then min (u3.cntOf e.n + 1) e.m else 0) → Tri (upd H3 c (.dK (putK (dL V.int u3.cnt) (.inr e.n : Key) (.int cv)))) b c s ⟨u3.bits, putL u3.cnt e.n (if h = true then min (u3.cntOf e.n + 1) e.m else 0), u3.seen⟩ := by
          intro cv ecv
          rw [← ecv, dL_put]
          exact t3.putC _
        cases h with
        | true =>
          refine ⟨_, rfl, _, rfl, iteT ⟨_, rfl, te, _, 2, .int e.m, rfl, rfl, kd b3, eb2 hkc, _, rfl, _, rfl, te, _, 1, .str e.n, rfl, rfl, kd b3, eb1 _, c, .int (u3.cntOf e.n), rfl, .inl ⟨_, .inr e.n, .inl t3.hc, rfl, by rw [dL_get, gc]; rfl⟩, _, _, rfl, rfl, _, _, rfl, ?_⟩⟩
          have emin : (if u3.cntOf e.n + 1 < e.m then u3.cntOf e.n + 1 else e.m) = min (u3.cntOf e.n + 1) e.m := by omega
          rw [emin]
          exact ⟨_, rfl, _, rfl, te, _, 1, .str e.n, rfl, rfl, kd b3, eb1 _, c, _, rfl, DPut.k (k := .inr e.n) t3.hc (by rw [dL_len, sizeLine_eq]; omega), rfl, b3.trans But3.uc, fin _ rfl⟩
        | false =>
          exact ⟨_, rfl, _, rfl, iteF ⟨_, rfl, _, rfl, te, _, 1, .str e.n, rfl, rfl, kd b3, eb1 _, c, _, rfl, DPut.k (k := .inr e.n) t3.hc (by rw [dL_len, sizeLine_eq]; omega), rfl, b3.trans But3.uc, fin _ rfl⟩⟩
      · rw [decide_eq_false hk, a4_n hk]
        exact iteF ⟨b3, t3⟩
    have l4a : (a4 u3 e h).bits.length ≤ 103 ∧ (a4 u3 e h).cnt.length ≤ 102 ∧ (e.k.counts = true → e.n ∈ keysL (a4 u3 e h).cnt) ∧ (a4 u3 e h).seen = u.seen := by
      by_cases hk : e.k = .timer
      · rw [a4_y hk]
        refine ⟨l3b, ?_, fun hc => keysL_put.mpr (.inr rfl), es3⟩
        have := put_le (l := u3.cnt) (n := e.n) (v := (if h = true then min (u3.cntOf e.n + 1) e.m else 0))
        simp only
        omega
      · rw [a4_n hk]
        exact ⟨l3b, by omega, hc3, es3⟩
    generalize a4 u3 e h = u4 at k l4a
    obtain ⟨l4b, l4c, hc4, es4⟩ := l4a
    rintro σ4 H4 ⟨rfl, b4, t4⟩
    have gc4 : e.k.counts = true → getL u4.cnt e.n = some (u4.cntOf e.n) := by
      intro hkc
      obtain ⟨q, hq⟩ := getL_mem.mpr (hc4 hkc)
      unfold Ws.cntOf
      rw [hq]
      rfl
    have gs4 : e.k = .counter → getL u4.seen e.n = some (u4.seenOf e.n) := by
      intro hk
      obtain ⟨q, hq⟩ := getL_mem.mpr (hs hk)
      unfold Ws.seenOf
      rw [es4, hq]
      rfl
    refine ⟨fun σ' H5 => σ' = [some (.ref t), some (.ref te), some (.bl h), some (.ref b), some (.ref c), some (.ref s)] ∧ But3 b c s H H5 ∧ Tri H5 b c s (a5 u4 e h), ?_, ?_⟩
    · walk_at "rd"
      refine ⟨te, _, 0, .str e.k.kindB, rfl, rfl, kd b4, eb0 _, rfl, ?_⟩
      rw [kb_counter]
      by_cases hk : e.k = .counter
      · have hkc : e.k.counts = true := by rw [hk]; rfl
        rw [decide_eq_true hk]
        refine iteT ?_
        cases h with
        | false =>
          rw [a5_f]
          exact iteF ⟨b4, t4⟩
        | true =>
          refine iteT ⟨_, rfl, _, rfl, te, _, 1, .str e.n, rfl, rfl, kd b4, eb1 _, s, .bl (u4.seenOf e.n), rfl, .inl ⟨_, .inr e.n, .inl t4.hs, rfl, by rw [dL_get, gs4 hk]; rfl⟩, _, rfl, ?_⟩
          cases hso : u4.seenOf e.n with
          | true =>
            rw [a5_s hso]
            exact iteF ⟨b4, t4⟩
          | false =>
            rw [a5_y hk hso]
            refine iteT ⟨_, rfl, te, _, 2, .int e.m, rfl, rfl, kd b4, eb2 hkc, _, rfl, _, rfl, te, _, 1, .str e.n, rfl, rfl, kd b4, eb1 _, c, .int (u4.cntOf e.n), rfl, .inl ⟨_, .inr e.n, .inl t4.hc, rfl, by rw [dL_get, gc4 hkc]; rfl⟩, _, _, rfl, rfl, _, _, rfl, ?_⟩
            have emin : (if u4.cntOf e.n + 1 < e.m then u4.cntOf e.n + 1 else e.m) = min (u4.cntOf e.n + 1) e.m := by omega
            rw [emin]
            refine ⟨_, rfl, _, rfl, te, _, 1, .str e.n, rfl, rfl, kd b4, eb1 _, c, _, rfl, DPut.k (k := .inr e.n) t4.hc (by rw [dL_len, sizeLine_eq]; omega), rfl, b4.trans But3.uc, ?_⟩
            have q := t4.putC (putL u4.cnt e.n (min (u4.cntOf e.n + 1) e.m))
            rw [← dL_put] at q
            exact q
      · rw [decide_eq_false hk, a5_n hk]
        exact iteF ⟨b4, t4⟩
    have l5a : (a5 u4 e h).bits.length ≤ 103 ∧ (a5 u4 e h).cnt.length ≤ 103 ∧ (e.k.counts = true → e.n ∈ keysL (a5 u4 e h).cnt) ∧ (a5 u4 e h).seen = u.seen := by
      unfold a5
      split
      · refine ⟨l4b, ?_, fun _ => keysL_put.mpr (.inr rfl), es4⟩
        have := put_le (l := u4.cnt) (n := e.n) (v := min (u4.cntOf e.n + 1) e.m)
        simp only
        omega
      · exact ⟨l4b, by omega, hc4, es4⟩
    generalize a5 u4 e h = u5 at k l5a
    obtain ⟨l5b, l5c, hc5, es5⟩ := l5a
    rintro σ5 H5 ⟨rfl, b5, t5⟩
    refine ⟨fun σ' H6 => σ' = [some (.ref t), some (.ref te), some (.bl h), some (.ref b), some (.ref c), some (.ref s)] ∧ But3 b c s H H6 ∧ Tri H6 b c s (a6 u5 e h), ?_, ?_⟩
    · walk_at "rd"
      refine ⟨te, _, 0, .str e.k.kindB, rfl, rfl, kd b5, eb0 _, rfl, ?_⟩
      rw [kb_counter]
      by_cases hk : e.k = .counter
      · rw [decide_eq_true hk, a6_y hk]
        refine iteT ⟨_, rfl, _, rfl, _, rfl, te, _, 1, .str e.n, rfl, rfl, kd b5, eb1 _, s, _, rfl, DPut.k (k := .inr e.n) t5.hs (by rw [dL_len, sizeLine_eq, es5]; omega), rfl, b5.trans But3.us, ?_⟩
        have q := t5.putS (putL u5.seen e.n h)
        rw [← dL_put] at q
        exact q
      · rw [decide_eq_false hk, a6_n hk]
        exact iteF ⟨b5, t5⟩
    have l6a : (a6 u5 e h).bits.length ≤ 103 ∧ (e.k.counts = true → e.n ∈ keysL (a6 u5 e h).cnt) := by
      unfold a6
      split
      · exact ⟨l5b, hc5⟩
      · exact ⟨l5b, hc5⟩
    generalize a6 u5 e h = u6 at k l6a
    obtain ⟨l6b, hc6⟩ := l6a
    rintro σ6 H6 ⟨rfl, b6, t6⟩
    have last : e.k.counts = true → sDPut (tVar 3) (tOp (rIxT K) (tVar 1) (tC (.int 1))) (tOp rEq (tDGet (tVar 4) (tOp (rIxT K) (tVar 1) (tC (.int 1)))) (tOp (rIxT K) (tVar 1) (tC (.int 2)))) { nx := fun x H' => Q V.non H', rt := Q } [some (.ref t), some (.ref te), some (.bl h), some (.ref b), some (.ref c), some (.ref s)] H6 := by
      intro hkc
      have gc6 : getL u6.cnt e.n = some (u6.cntOf e.n) := by
        obtain ⟨q, hq⟩ := getL_mem.mpr (hc6 hkc)
        unfold Ws.cntOf
        rw [hq]
        rfl
      refine ⟨_, rfl, _, rfl, te, _, 1, .str e.n, rfl, rfl, kd b6, eb1 _, c, .int (u6.cntOf e.n), rfl, .inl ⟨_, .inr e.n, .inl t6.hc, rfl, by rw [dL_get, gc6]; rfl⟩, _, rfl, te, _, 2, .int e.m, rfl, rfl, kd b6, eb2 hkc, scal_ii, ?_⟩
      refine ⟨_, rfl, _, rfl, te, _, 1, .str e.n, rfl, rfl, kd b6, eb1 _, b, _, rfl, DPut.k (k := .inr e.n) t6.hb (by rw [dL_len, sizeLine_eq]; omega), ?_⟩
      have ed : decide (V.int (u6.cntOf e.n) = V.int e.m) = decide (u6.cntOf e.n = e.m) := by rw [decide_eq_decide, V.int.injEq]
      rw [ed]
      have q := k (upd H6 b (.dK (dL V.bl (putL u6.bits e.n (decide (u6.cntOf e.n = e.m)))))) (b6.trans But3.ub) (by rw [a7_y hkc]; exact t6.putB _)
      rw [← dL_put] at q
      exact q
    walk_at "rd"
    refine ⟨te, _, 0, .str e.k.kindB, rfl, rfl, kd b6, eb0 _, rfl, ?_⟩
    rw [kb_timer]
    by_cases hk : e.k = .timer
    · rw [decide_eq_true hk]
      exact iteT (last (by rw [hk]; rfl))
    · rw [decide_eq_false hk]
      refine iteF ⟨te, _, 0, .str e.k.kindB, rfl, rfl, kd b6, eb0 _, rfl, ?_⟩
      rw [kb_counter]
      by_cases hk2 : e.k = .counter
      · rw [decide_eq_true hk2]
        exact iteT (last (by rw [hk2]; rfl))
      · rw [decide_eq_false hk2]
        have hn : e.k.counts = false := by
          cases hkk : e.k <;> rw [hkk] at hk hk2 <;> first | exact absurd rfl hk | exact absurd rfl hk2 | rfl
        refine iteF (k _ b6 ?_)
        rw [a7_n hn]
        exact t6
def spScanL (K : PySem.W.Frag) : Sp := fun vs H Q _ => ∃ (dv sv : V) (r b c s : Addr) (l : Lad) (u : Ws) (row : List Bool), vs = [dv, sv, .ref r] ∧ IsDr K H dv l ∧ IsSt H sv b c s u ∧ SqT K H r (row.map V.bl) ∧ row.length = l.ins.length ∧ Fits l u ∧ l.fair = true ∧ (∀ g ∈ l.rs, g.c.size ≤ 60 ∧ g.c.depth ≤ 20) ∧
  ∀ (H' : Hp) (t : Addr), But3 b c s H H' → H t = none → Tri H' b c s (scanP l u row).1 → H' t = some (.tup ((scanP l u row).2.map V.bl)) → Q (.ref t) H'
theorem ok_scanL (T : TLSt K mg) : FnAt P w K mg base CX0 "_law_scan" 22 ["_law_drawn_here", "_law_state", "_law_row_here"] (spScanL K) := by
  have G__law_holds : FnAt P w K mg base CX0 "_law_holds" 21 _ (spLHolds 20) := ok_lholds T.lh 20
  have G__law_act : FnAt P w K mg base CX0 "_law_act" 1 _ spActL := ok_actL T
  refine fnAt_ok T.d_scan sc__law_scan (fun vs H Q E h => ?_) (fun f cdv A outer st H vs Q E hr h => ?_)
  · obtain ⟨dv, sv, r, b, c, s, l, u, row, rfl, _⟩ := h; rfl
  · obtain ⟨dv, sv, r, b, c, s, l, u, row, rfl, hd, hs, hrow, hlen, hfit, hfair, hsz, q⟩ := h
    have hu := hu_of hr
    obtain ⟨f1, f2, f3, f4, f5, f6, f7, f8, f9⟩ := (fair_iff l).mp hfair
    obtain ⟨a, ti, tt, p, ws, rfl, ha, h1, h2, h3, h4⟩ := id hd
    obtain ⟨t0, rfl, ht0, ht⟩ := hs
    refine ⟨_, (pss_cons (ps_for PassesOwn.never rfl (pi_range1 rfl T.z_range (pa_cons (pe_callB call_len_seq (by rfl) T.z_len PySem.boot_len (pa_cons (pv 2) pa_nil)) pa_nil)) (pg_name (i := 3) sc__law_scan.nd rfl (by first | exact Or.inl rfl | exact Or.inr rfl)) (pss_one (ps_dput hu (pe_ix ix_tup (pv 1) pe_int (fun _ _ => rfl)) (pe_ix ix_tup (pe_ix ix_tup (pv 0) pe_int (fun _ _ => rfl)) (pv 3) (fun _ _ => rfl)) (pe_ix ix_tup (pv 2) (pv 3) (fun _ _ => rfl)) rfl)))
        (pss_cons (ps_set (i := 4) sc__law_scan.nd rfl (by first | exact Or.inl rfl | exact Or.inr rfl) (pe_lst pa_nil))
        (pss_cons (ps_for PassesOwn.never rfl (pi_list (pe_ix ix_tup (pv 0) pe_int (fun _ _ => rfl))) (pg_tup rfl (pgs_cons (pg_name (i := 5) sc__law_scan.nd rfl (by first | exact Or.inl rfl | exact Or.inr rfl)) (pgs_cons (pg_name (i := 6) sc__law_scan.nd rfl (by first | exact Or.inl rfl | exact Or.inr rfl)) pgs_nil))) (pss_cons (ps_expr (pe_bm PySem.F.plainAttrs_list PySem.F.slot_list_append PySem.F.type_list_append mt_append (pv 4) (pa_cons (pe_callF G__law_holds hr pass0 (pa_cons (pv 5) (pa_cons (pe_ix ix_tup (pv 1) pe_int (fun _ _ => rfl)) pa_nil))) pa_nil)))
          (pss_one (ps_expr (pe_callF G__law_act hr pass0 (pa_cons (pv 1) (pa_cons (pv 6) (pa_cons (pe_ix ix_list (pv 4) (pe_un un_neg pe_int) (fun _ _ => rfl)) pa_nil))))))))
        (pss_one (ps_ret (pe_callTy call_tuple_of (by rfl) T.z_tuple (show PySem.bootBuiltins "tuple" = some (.type "tuple") by decide +kernel) (pa_cons (pv 4) pa_nil))))))), ?_⟩
    walk_at "rd"
    have hub := hfit.bits_len
    have hrl : (row.map V.bl).length = row.length := List.length_map ..
    have hnd : (keysL u.bits).Nodup := by
      rw [hfit.kb, List.nodup_append]
      exact ⟨f2, writ_nodup _, fun a ha b hb e => f6 a ha (by rw [e]; exact hb)⟩
    have hdr : ∀ {H' : Hp}, But3 b c s H H' → H' a = some (.tup [.ref ti, .ref tt, .ref p]) ∧ Tp K H' ti (l.ins.map V.str) ∧ H' p = some (.lst ws) ∧ H' t0 = some (.tup [.ref b, .ref c, .ref s]) ∧ SqT K H' r (row.map V.bl) :=
      fun k => ⟨(k.noD ht).tup ha, h1.mono (T := fun _ => False) (k.noD ht).imm, (k.noD ht).lst h3, (k.noD ht).tup ht0, k.sqT ht hrow⟩
    refine ⟨_, rfl, r, rfl, _, .inr hrow, _, rfl, by rw [hrl]; omega, by rw [hrl]; omega, for_range (lo := 0) (n := (row.map V.bl).length) (fun i σ H' => ∃ v3 : Option V, σ = [some (.ref a), some (.ref t0), some (.ref r), v3, none, none, none] ∧ But3 b c s H H' ∧ Tri H' b c s ⟨putRow u.bits ((l.ins.zip row).take i), u.cnt, u.seen⟩) ⟨none, rfl, But3.refl _, ht⟩ ?_ ?_⟩
    · rintro i σ H1 hi ⟨v3, rfl, k1, t1⟩
      rw [hrl] at hi
      obtain ⟨ha1, h11, _, ht1, hr1⟩ := hdr k1
      have hb' : row[i]? = some row[i] := List.getElem?_eq_getElem hi
      have hn' : l.ins[i]? = some l.ins[i] := List.getElem?_eq_getElem (by omega)
      have hz : (l.ins.zip row)[i]? = some (l.ins[i], row[i]) := List.getElem?_zip_eq_some.mpr ⟨hn', hb'⟩
      have hkl : (putRow u.bits ((l.ins.zip row).take i)).length = u.bits.length := by
        have := congrArg List.length (putRow_keys u.bits ((l.ins.zip row).take i) (fun p hp => by
          rw [hfit.kb]
          exact List.mem_append_left _ (List.of_mem_zip (List.mem_of_mem_take hp)).1))
        rw [len_keys, len_keys] at this
        exact this
      walk_at "rd"
      rw [Int.zero_add]
      refine ⟨_, rfl, _, rfl, r, _, i, .bl row[i], rfl, rfl, hr1, atI_nat (by rw [List.getElem?_map, hb']; rfl), _, rfl, t0, _, 0, .ref b, rfl, rfl, SqT.of ht1, rfl, _, rfl, a, _, 0, .ref ti, rfl, rfl, SqT.of ha1, rfl, _, rfl, ti, _, i, .str l.ins[i], rfl, rfl, h11.seq, atI_nat (by rw [List.getElem?_map, hn']; rfl), b, _, rfl, DPut.k (k := .inr l.ins[i]) t1.hb (by rw [dL_len, sizeLine_eq]; show (putRow _ _).length < _; omega), _, rfl, k1.trans But3.ub, ?_⟩
      have q2 := t1.putB (putL (putRow u.bits ((l.ins.zip row).take i)) l.ins[i] row[i])
      rw [← dL_put] at q2
      rw [List.take_succ, hz]
      show Tri _ _ _ _ ⟨putRow u.bits ((l.ins.zip row).take i ++ [(l.ins[i], row[i])]), _, _⟩
      rw [putRow_snoc]
      exact q2
    rintro σ H1 ⟨v3, rfl, k1, t1⟩
    rw [hrl, List.take_of_length_le (by rw [List.length_zip]; omega)] at t1
    walk_at "rd"
    refine ⟨Nat.zero_le _, fun pf np => ?_⟩
    have k2 := k1.trans (Same.but3 (Same.new (o := .lst []) np))
    have t2 := t1.keep (Same.new (o := .lst []) np)
    have hp2 : upd H1 pf (.lst []) pf = some (.lst []) := upd_same
    have pn : H pf = none := k1.free t1 np
    show tFor _ _ _ _ _ (upd H1 pf (.lst []))
    generalize upd H1 pf (.lst []) = H2 at k2 t2 hp2
    have hlen2 := h4.length
    have pb : pf ≠ b := fun e => by rw [e, t2.hb] at hp2; cases hp2
    have pc : pf ≠ c := fun e => by rw [e, t2.hc] at hp2; cases hp2
    have ps : pf ≠ s := fun e => by rw [e, t2.hs] at hp2; cases hp2
    obtain ⟨ha2, _, hp2', _, _⟩ := hdr k2
    refine ⟨_, rfl, a, _, 2, .ref p, rfl, rfl, SqT.of ha2, rfl, p, rfl, ⟨_, SqL.of hp2'⟩,
      for_list (K := K) (a := p) (xs := ws) (fun i σ H' => ∃ v5 v6 : Option V, σ = [some (.ref a), some (.ref t0), some (.ref r), v3, some (.ref pf), v5, v6] ∧ But3 b c s H H' ∧ Tri H' b c s (goRungs ⟨putRow u.bits (l.ins.zip row), u.cnt, u.seen⟩ (l.rs.take i)).1 ∧ H' pf = some (.lst ((goRungs ⟨putRow u.bits (l.ins.zip row), u.cnt, u.seen⟩ (l.rs.take i)).2.map V.bl)))
        ⟨none, none, rfl, k2, t2, hp2⟩ (fun i σ H' _ ⟨_, _, _, k, _⟩ => SqL.of (hdr k).2.2.1) ?_ ?_⟩
    · rintro i y σ H3 hy ⟨v5, v6, rfl, k3, t3, hp3⟩
      obtain ⟨g, hg, tg, x, e, rfl, htg, hxc, hxe⟩ := h4.at hy
      have hgm := List.mem_of_getElem? hg
      have hfi := (hfit.row row).go i
      have hbl := hfi.bits_len
      have hbk := hfi.kb
      have hcl := hfi.cnt_len
      have hsl := hfi.seen_len
      rw [List.take_succ, hg, Option.toList_some]
      generalize hG : goRungs ⟨putRow u.bits (l.ins.zip row), u.cnt, u.seen⟩ (l.rs.take i) = G at t3 hp3 hfi hbl hbk hcl hsl
      have hGl : G.2.length = (l.rs.take i).length := by rw [← hG]; exact goRungs_len _ _
      rw [List.length_take] at hGl
      rw [goRungs_snoc, hG]
      have hgood := good_bits (show (keysL G.1.bits).Nodup by
        rw [hbk, List.nodup_append]
        exact ⟨f2, writ_nodup _, fun a ha b hb e => f6 a ha (by rw [e]; exact hb)⟩) (by omega)
      have nd3 := k3.noD ht
      refine ⟨tg, _, rfl, SqT.of (nd3.tup htg), rfl, ?_⟩
      walk_at "rd"
      unfold tBM
      walk_at "rd"
      obtain ⟨_, _, _, ht3, _⟩ := hdr k3
      refine ⟨.inl ⟨rfl, _, SqL.of hp3⟩, t0, _, 0, .ref b, rfl, rfl, SqT.of ht3, rfl, x, b, g.c, dL V.bl G.1.bits, rfl, hxc.mono (T := fun _ => False) nd3.imm, t3.hb, hgood, (hsz g hgm).2, Nat.le_trans (hsz g hgm).1 (by decide), fun H4 s4 => ?_⟩
      rw [im_bits G.1.bits G.1.cnt G.1.seen]
      refine ⟨pf, _, _, rfl, rfl, s4 _ _ hp3, by rw [List.length_map, sizeLine_eq]; omega, ?_⟩
      have k5 : But3 b c s H (upd H4 pf (.lst (G.2.map V.bl ++ [.bl (g.c.holds G.1.im)]))) := (k3.trans (Same.but3 s4)).off pn
      have t5 : Tri (upd H4 pf (.lst (G.2.map V.bl ++ [.bl (g.c.holds G.1.im)]))) b c s G.1 := (t3.keep s4).off pb pc ps
      have hp5 : upd H4 pf (.lst (G.2.map V.bl ++ [.bl (g.c.holds G.1.im)])) pf = some (.lst (G.2.map V.bl ++ [.bl (g.c.holds G.1.im)])) := upd_same
      refine ⟨1, rfl, pf, _, -1, .bl (g.c.holds G.1.im), rfl, rfl, SqL.of hp5, atI_last _ _, t0, b, c, s, e, g.e, g.c.holds G.1.im, G.1, rfl, (hdr k5).2.2.2.1, t5, hxe.mono (T := fun _ => False) (k5.noD ht).imm, hfi.cnt hgm, hfi.seen hgm, by omega, by omega, by omega, fun H6 k6 t6 => ⟨_, _, ⟨rfl, rfl⟩, k5.trans k6, t6, ?_⟩⟩
      rw [k6 _ _ hp5 pb pc ps, List.map_append]
      rfl
    · rintro σ H3 ⟨v5, v6, rfl, k3, t3, hp3⟩
      rw [hlen2, List.take_length] at t3 hp3
      walk_at "rd"
      refine ⟨_, .inl ⟨SqL.of hp3, fun t nt => ?_⟩⟩
      exact q _ t (k3.trans (Same.but3 (Same.new nt))) (k3.free t3 nt) (t3.keep (Same.new nt)) upd_same
end


--%% N13
/-! ## rows of truths, held against each other -/
theorem shaped_of {d : PyData} (h : d.canLay0 = true) (hd : d.depth ≤ 64) : SeqAt.shaped d = true := by
  unfold SeqAt.shaped
  rw [h, decide_eq_true hd]
  rfl
theorem bools_dp {K : PySem.W.Frag} {H : Hp} : ∀ l : List Bool, DpAll K H (l.map V.bl) (l.map PyData.bool)
  | [] => .nil
  | n :: l => .cons (.bl n) (bools_dp l)
theorem bools_lay : ∀ {l : List Bool}, PyData.canLayAll0 (l.map PyData.bool) = true
  | [] => rfl
  | n :: l => by
    show (true && PyData.canLayAll0 (l.map PyData.bool)) = true
    rw [bools_lay]
    rfl
theorem bools_flat : ∀ l : List Bool, PyData.depthAll (l.map PyData.bool) = 0
  | [] => rfl
  | n :: l => by
    rw [List.map_cons, PyData.depthAll, bools_flat l]
    rfl
theorem bools_shaped {l : List Bool} : SeqAt.shaped (.tuple (l.map PyData.bool)) = true := shaped_of bools_lay (by rw [PyData.depth, bools_flat]; omega)
theorem bools_eqv {l : List Bool} : PyData.eqv (.tuple (l.map PyData.bool)) (.tuple (l.map PyData.bool)) = true := SeqAt.eqv_refl _ bools_lay

/-! ## a drawn ladder: made -/
abbrev s__law_made : Stmt := top 59
theorem sc__law_made : FnScope ["_law_drawn_here", "_law_rungs_here", "_law_told_here", "_law_end_here", "_law_made_here"] ["_law_drawn_here"] (defScope s__law_made) := ⟨rfl, rfl, rfl, by decide +kernel, rfl, by decide +kernel, by decide +kernel⟩
structure TMade (K : PySem.W.Frag) (mg : Str → Option Value) (cs : Cs) (cc : Addr) (xc : Xc) : Prop where
  lad : TLad K mg cs cc xc
  pof : TPartOf K mg cs.cl
  d_made : DefAt K mg "_law_made" s__law_made ["_law_drawn_here"]
def Rg.ok (r : Rg) : Prop := r.c.ok = true ∧ r.c.size ≤ 60 ∧ r.c.depth ≤ 20 ∧ isName r.e.n = true ∧ 1 ≤ r.e.m ∧ r.e.m ≤ 9
section
variable {P : Program} {w : World} {K : PySem.W.Frag} {mg : Str → Option Value} {base : Heap} {cs : Cs} {cc : Addr} {xc : Xc}
def spMade (K : PySem.W.Frag) (cs : Cs) (ok : Ek → Bool) : Sp := fun vs H Q _ => ∃ (v : V) (l : Lad), vs = [v] ∧ IsDr K H v l ∧ l.fair = true ∧ l.named = true ∧ (∀ r ∈ l.rs, r.ok ∧ ok r.e.k = true) ∧ ∀ (H' : Hp) (x : Addr), Same H H' → H x = none → IsL K cs H' (.ref x) l → Q (.ref x) H'
/-- what making asks, where nothing is refused -/
theorem mk_enC {ce : Ce} {H : Hp} {x dx : Addr} {k : Ek} {n : Str} {m : Int} {Q : VK} (nx : H x = none) (nd : H dx = none) (hk : k.counts = false) (hn : isName n = true) (q : ∀ H' : Hp, Same H H' → IsE ce H' (.ref x) ⟨k, n, m⟩ → Q .non H') :
    spInitEn ce xc (.ref x :: ([.str n] ++ [])) (upd (upd H dx (.own x)) x (.ins (ce.at k) dx [])) Q E0 :=
  ⟨x, dx, k, n, rfl, upd_same, line_ge (by have := isName_len' hn; omega), fun _ H' h1 h2 => q H' (fun c o e => h2 c o (same_mkE nx nd c o e) (ne_of_none e nx)) ⟨x, dx, rfl, by unfold EndC.fs; rw [hk]; exact h1⟩, fun h => by rw [hn] at h; cases h⟩
theorem mk_coC {ce : Ce} {H : Hp} {x dx : Addr} {k : Ek} {n : Str} {m : Int} {Q : VK} (nx : H x = none) (nd : H dx = none) (hk : k.counts = true) (hn : isName n = true) (m1 : 1 ≤ m) (m9 : m ≤ 9) (q : ∀ H' : Hp, Same H H' → IsE ce H' (.ref x) ⟨k, n, m⟩ → Q .non H') :
    spInitCo ce xc (.ref x :: ([.str n, .int m] ++ [])) (upd (upd H dx (.own x)) x (.ins (ce.at k) dx [])) Q E0 :=
  ⟨x, dx, k, n, m, rfl, upd_same, hk, line_ge (by have := isName_len' hn; omega), fun _ _ _ H' h1 h2 => q H' (fun c o e => h2 c o (same_mkE nx nd c o e) (ne_of_none e nx)) ⟨x, dx, rfl, by unfold EndC.fs; rw [hk]; exact h1⟩, fun h => (by rw [hn] at h; cases h), fun _ z => absurd ⟨m1, m9⟩ z⟩
theorem mk_rgC {H : Hp} {x dx : Addr} {p q : V} {Q : VK} {E : XK} (nx : H x = none) (nd : H dx = none) (k : ∀ H' : Hp, Same H H' → H' x = some (.ins cs.rg dx [("part", p), ("end", q)]) → Q .non H') :
    spInitRg cs (.ref x :: ([p, q] ++ [])) (upd (upd H dx (.own x)) x (.ins cs.rg dx [])) Q E :=
  ⟨x, dx, p, q, rfl, upd_same, fun H' h1 h2 => k H' (fun c o e => h2 c o (same_mkE nx nd c o e) (ne_of_none e nx)) h1⟩
theorem lad_good {l : Lad} (h1 : l.fair = true) (h2 : l.named = true) : l.bad = none := by
  unfold Lad.bad
  rw [if_pos h2, if_pos h1]
theorem mk_ldC {H : Hp} {x dx i o r : Addr} {ws : List V} {l : Lad} {Q : VK} (nx : H x = none) (nd : H dx = none) (hi : Sq2 K H i (l.ins.map V.str)) (ho : Sq2 K H o (l.outs.map V.str)) (hr : Sq2 K H r ws) (ht : Two (IsR cs H) ws l.rs) (hf : l.fair = true) (hn : l.named = true)
    (k : ∀ H' : Hp, Same H H' → IsL K cs H' (.ref x) l → Q .non H') :
    spInitLd K cs xc (.ref x :: ([.ref i, .ref o, .ref r] ++ [])) (upd (upd H dx (.own x)) x (.ins cs.ld dx [])) Q E0 := by
  obtain ⟨f1, f2, f3, f4, f5, f6, f7, f8, f9⟩ := (fair_iff l).mp hf
  refine ⟨H, x, dx, i, o, r, ws, l, rfl, upd_same, same_mkE nx nd, nx, hi, ho, hr, ht, by omega, by omega, by omega, fun n h => ?_, fun _ H' s p => k H' s p, fun b h => ?_⟩
  · have := isName_len' (List.all_eq_true.mp hn n h)
    omega
  · rw [lad_good hf hn] at h
    cases h
end

--%% N14
/-! ## a drawn ladder -/
abbrev s__law_told : Stmt := top 55
theorem sc__law_told : FnScope ["_law_cell", "_law_names_here", "_law_deep", "_law_way", "_law_many", "_law_inner", "_law_k"] ["_law_cell", "_law_names_here", "_law_deep"] (defScope s__law_told) := ⟨rfl, rfl, rfl, by decide +kernel, rfl, by decide +kernel, by decide +kernel⟩
abbrev s__law_end : Stmt := top 56
theorem sc__law_end : FnScope ["_law_cell", "_law_name", "_law_kind", "_law_done", "_law_way", "_law_most"] ["_law_cell", "_law_name", "_law_kind", "_law_done"] (defScope s__law_end) := ⟨rfl, rfl, rfl, by decide +kernel, rfl, by decide +kernel, by decide +kernel⟩
abbrev s__law_rungs : Stmt := top 57
theorem sc__law_rungs : FnScope ["_law_script", "_law_inputs", "_law_names_here", "_law_size", "_law_some", "_law_made_here", "_law_done", "_law_cell", "_law_at", "_law_end_here", "_law_told_here"] ["_law_script", "_law_inputs", "_law_names_here"] (defScope s__law_rungs) := ⟨rfl, rfl, rfl, by decide +kernel, rfl, by decide +kernel, by decide +kernel⟩
abbrev s__law_drawn : Stmt := top 58
theorem sc__law_drawn : FnScope ["_law_script", "_law_names_here", "_law_inputs", "_law_rungs_here", "_law_borne", "_law_told_here", "_law_end_here", "_law_at", "_law_outputs"] ["_law_script"] (defScope s__law_drawn) := ⟨rfl, rfl, rfl, by decide +kernel, rfl, by decide +kernel, by decide +kernel⟩
structure TDraw (K : PySem.W.Frag) (mg : Str → Option Value) : Prop where
  bn : TBNames K mg
  d_told : DefAt K mg "_law_told" s__law_told ["_law_cell", "_law_names_here", "_law_deep"]
  d_end : DefAt K mg "_law_end" s__law_end ["_law_cell", "_law_name", "_law_kind", "_law_done"]
  d_rungs : DefAt K mg "_law_rungs" s__law_rungs ["_law_script", "_law_inputs", "_law_names_here"]
  d_drawn : DefAt K mg "_law_drawn" s__law_drawn ["_law_script"]
  z_len : mg "len" = none
  z_range : mg "range" = none
  z_tuple : mg "tuple" = none
  z_list : mg "list" = none
  z_reversed : mg "reversed" = none
section
variable {P : Program} {w : World} {K : PySem.W.Frag} {mg : Str → Option Value} {base : Heap}
/-! ### a condition -/
def most3 : Nat → Nat
  | 0 => 1
  | d + 1 => 3 * most3 d + 1
def Cond.fine (d : Nat) (c : Cond) : Prop := c.ok = true ∧ c.size ≤ most3 d ∧ c.depth ≤ d + 1
theorem fine_sizes {d : Nat} : ∀ {cs : List Cond}, (∀ c ∈ cs, c.fine d) → Cond.sizes cs ≤ most3 d * cs.length ∧ Cond.depths cs ≤ d + 1 ∧ Cond.oks cs = true
  | [], _ => by simp [Cond.sizes, Cond.depths, Cond.oks]
  | c :: cs, h => by
    have h1 := h c List.mem_cons_self
    have h2 := fine_sizes fun x hx => h x (List.mem_cons_of_mem _ hx)
    rw [Cond.sizes, Cond.depths, Cond.oks, List.length_cons, h1.1, h2.2.2, Nat.mul_succ]
    exact ⟨by have := h1.2.1; omega, by have := h1.2.2; omega, rfl⟩
theorem most3_pos : ∀ d, 1 ≤ most3 d
  | 0 => Nat.le_refl _
  | d + 1 => by rw [most3]; omega
theorem Cond.fine.mono {d : Nat} {c : Cond} (h : c.fine d) : c.size ≤ most3 d := h.2.1
def spToldB (n : Nat) : Sp := fun vs H Q _ => ∃ (m : Int) (q : Addr) (ns : List Str) (d : Nat), vs = [.int m, .ref q, .int d] ∧ d < n ∧ H q = some (.lst (ns.map V.str)) ∧ ns ≠ [] ∧ (∀ x ∈ ns, isName x = true) ∧ ∀ (H' : Hp) (v : V) (c : Cond), Same H H' → IsT H' v c → c.fine d → Q v H'
theorem ok_toldB (T : TDraw K mg) : ∀ n : Nat, FnAt P w K mg base CX0 "_law_told" (n + 1) ["_law_cell", "_law_names_here", "_law_deep"] (spToldB n)
  | 0 => by
    refine fnAt_ok T.d_told sc__law_told (fun vs H Q E h => ?_) (fun f cdv A outer s H vs Q E hr h => ?_)
    · obtain ⟨m, q, ns, d, rfl, _⟩ := h; rfl
    · obtain ⟨m, q, ns, d, rfl, h, _⟩ := h
      exact absurd h (by omega)
  | n + 1 => by
    have G__law_told := ok_toldB T n
    have G__law_mixed : FnAt P w K mg base CX0 "_law_mixed" 1 _ spMixed := ok_mixed T.bn.cells
    refine fnAt_ok T.d_told sc__law_told (fun vs H Q E h => ?_) (fun f cdv A outer s H vs Q E hr h => ?_)
    · obtain ⟨m, q, ns, d, rfl, _⟩ := h; rfl
    · obtain ⟨m, q, ns, d, rfl, hd, hq, hne, hns, k⟩ := h
      have hu := hu_of hr
      refine ⟨_, (pss_cons (ps_set (i := 3) sc__law_told.nd rfl (by first | exact Or.inl rfl | exact Or.inr rfl) (pe_op op_mod (pe_op op_fdiv (pe_callF G__law_mixed hr pass0 (pa_cons (pv 0) (pa_cons (pv 2) pa_nil)) (Nat.le_add_left 1 n)) pe_int) pe_int))
        (pss_cons (ps_if (PW.pt (pw_or (pt_cmpR op_eq (pv 2) pe_int (nomark _)) (pw_or1 (pt_cmpR op_lt (pv 3) pe_int (nomark _))))) (pss_cons (ps_if (PW.pt (pw_and (pt_cmpR op_eq (pv 3) pe_int (nomark _)) (pw_and1 (pt_cmpR op_eq (pe_op op_mod (pe_op op_fdiv (pe_callF G__law_mixed hr pass0 (pa_cons (pv 0) (pa_cons pe_int pa_nil)) (Nat.le_add_left 1 n)) pe_int) pe_int) pe_int (nomark _))))) (pss_one (ps_ret (pe_tup (pa_cons pe_str (pa_cons (pe_cmpR op_eq (pe_op op_mod (pe_op op_fdiv (pe_callF G__law_mixed hr pass0 (pa_cons (pv 0) (pa_cons pe_int pa_nil)) (Nat.le_add_left 1 n)) pe_int) pe_int) pe_int (nomark _)) pa_nil))))) pss_nil)
          (pss_one (ps_ret (pe_tup (pa_cons pe_str (pa_cons (pe_ix ix_list (pv 1) (pe_op op_mod (pe_op op_fdiv (pe_callF G__law_mixed hr pass0 (pa_cons (pv 0) (pa_cons pe_int pa_nil)) (Nat.le_add_left 1 n)) pe_int) (pe_callB call_len_seq (by rfl) T.z_len PySem.boot_len (pa_cons (pv 1) pa_nil))) (fun _ _ => rfl)) pa_nil)))))) pss_nil)
        (pss_cons (ps_set (i := 4) sc__law_told.nd rfl (by first | exact Or.inl rfl | exact Or.inr rfl) (pe_op op_add pe_int (pe_op op_mod (pe_op op_fdiv (pe_callF G__law_mixed hr pass0 (pa_cons (pv 0) (pa_cons pe_int pa_nil)) (Nat.le_add_left 1 n)) pe_int) pe_int)))
        (pss_cons (ps_setLc (i := 5) (own := [("_law_k", 6)]) (g := gName 6) (tt := tYes) rfl sc__law_told.nd rfl rfl (sw_true rfl rfl rfl (by decide +kernel)) (pi_range1 rfl T.z_range (pa_cons (pv 4) pa_nil)) (blkOk_by (own := [("_law_k", 6)]) (N := ["_law_cell", "_law_names_here", "_law_deep", "_law_way", "_law_many", "_law_inner", "_law_k"]) (sc := defScope s__law_told) (by decide +kernel)) (fun _ _ _ _ _ => pg_name (i := 6) sc__law_told.nd rfl (Or.inl rfl)) (fun _ _ _ _ _ => pts_nil) (fun _ _ _ _ _ => (pe_callF G__law_told hr pass0 (pa_cons (pe_callF G__law_mixed hr pass0 (pa_cons (pv 0) (pa_cons (pe_op op_add pe_int (pv 6)) pa_nil)) (Nat.le_add_left 1 n)) (pa_cons (pv 1) (pa_cons (pe_op op_sub (pv 2) pe_int) pa_nil))) (Nat.le_refl _))))
        (pss_cons (ps_if (pt_cmpR op_lt (pv 3) pe_int (nomark _)) (pss_one (ps_ret (pe_tup (pa_cons pe_str (pa_cons (pe_ix ix_list (pv 5) pe_int (fun _ _ => rfl)) pa_nil))))) pss_nil)
        (pss_one (ps_ret (pe_op op_catT (pe_ix ix_list (pe_lst (pa_cons (pe_tup (pa_cons pe_str pa_nil)) (pa_cons (pe_tup (pa_cons pe_str pa_nil)) pa_nil))) (pe_op op_mod (pv 3) pe_int) (fun _ _ => rfl)) (pe_callTy call_tuple_of (by rfl) T.z_tuple (show PySem.bootBuiltins "tuple" = some (.type "tuple") by decide +kernel) (pa_cons (pv 5) pa_nil)))))))))), ?_⟩
      walk_at "rd"
      have hw0 : 0 ≤ mixed m d / 5 % 9 := Int.emod_nonneg _ (by decide)
      have hw9 : mixed m d / 5 % 9 < 9 := Int.emod_lt_of_pos _ (by decide)
      refine ⟨_, _, rfl, _, rfl, ?_⟩
      generalize mixed m d / 5 % 9 = way at hw0 hw9 ⊢
      refine (fun X => ite2 (fun _ => X) fun h0 => ite2 (fun _ => X) fun h1 => ?_) ?_
      · have hd0 : d ≠ 0 := by
          intro e
          rw [e] at h0
          simp at h0
        obtain ⟨e, rfl⟩ : ∃ e, d = e + 1 := ⟨d - 1, by omega⟩
        refine ⟨_, _, rfl, _, rfl, ?_⟩
        obtain ⟨w, hw, hw2⟩ : ∃ w : Nat, 2 + mixed m 66 / 3 % 2 = (w : Int) ∧ (w = 2 ∨ w = 3) := by
          have b0 := Int.emod_nonneg (mixed m 66 / 3) (show (2 : Int) ≠ 0 by decide)
          have b1 := Int.emod_lt_of_pos (mixed m 66 / 3) (show (0 : Int) < 2 by decide)
          exact ⟨(2 + mixed m 66 / 3 % 2).toNat, by omega, by omega⟩
        rw [hw]
        refine ⟨_, rfl, _, rfl, by omega, by omega, fun D nD => lc_range (lo := 0) (n := w) (fun i H' => Same H H' ∧ ∃ vs cs, H' D = some (.lst vs) ∧ IsTs H' vs cs ∧ cs.length = i ∧ ∀ c ∈ cs, c.fine e) ⟨Same.new nD, [], [], upd_same, .nil, rfl, by simp⟩ ?_ ?_⟩
        · rintro i H1 hi ⟨s1, vs, cs, hD, ts, hl, hc⟩
          rw [Int.zero_add]
          refine ⟨rfl, ?_⟩
          walk_at "rd"
          have hvl := ts.length
          refine ⟨_, _, rfl, _, q, ns, e, by rw [show ((e + 1 : Nat) : Int) - 1 = (e : Int) by omega], by omega, s1 _ _ hq, hne, hns, fun H2 v c s2 pt fc => ?_⟩
          have im : Imm (fun _ => False) H2 (upd H2 D (.lst (vs ++ [v]))) := Imm.mut (s2 _ _ hD) id
          refine ⟨vs, s2 _ _ hD, by rw [sizeLine_eq]; omega, Same.mut (s1.trans s2) nD, vs ++ [v], upd_same, cs ++ [c], ((ts.mono (T := fun _ => False) (Same.imm s2)).mono im).snoc (pt.mono im), by simp [hl], fun c' hc' => ?_⟩
          rcases List.mem_append.mp hc' with hc' | hc'
          · exact hc c' hc'
          · rw [List.mem_singleton.mp hc']
            exact fc
        · rintro H1 ⟨s1, vs, cs, hD, ts, hl, hc⟩
          have hvl := ts.length
          obtain ⟨g1, g2, g3⟩ := fine_sizes hc
          have g4 : most3 e * cs.length ≤ 3 * most3 e := by
            rw [Nat.mul_comm]
            exact Nat.mul_le_mul_right _ (by omega)
          refine ite2 (fun _ => ?_) (fun _ => ?_)
          · have hv : vs[0]? = some (vs[0]'(by omega)) := List.getElem?_eq_getElem (by omega)
            obtain ⟨c, hc0, pc⟩ := ts.at hv
            have fc := hc c (List.mem_of_getElem? hc0)
            refine ⟨D, _, 0, _, rfl, rfl, SqL.of hD, atI_int (by decide) hv, line_ge (by decide), fun t nt => k _ _ (.not c) (s1.trans (Same.new nt)) (.not upd_same (pc.mono (T := fun _ => False) (Same.imm (Same.new nt)))) ⟨fc.1, ?_, ?_⟩⟩
            · have := fc.2.1
              rw [Cond.size, most3]
              omega
            · have := fc.2.2
              rw [Cond.depth]
              omega
          · refine ⟨line_ge (by decide), fun p np => ⟨line_ge (by decide), fun p1 np1 => ⟨line_ge (by decide), fun p2 np2 => ?_⟩⟩⟩
            have u1 : Same H1 (upd (upd (upd H1 p (.tup [.str "and"])) p1 (.tup [.str "or"])) p2 (.lst [.ref p, .ref p1])) := (Same.new np).trans ((Same.new np1).trans (Same.new np2))
            have hp : upd (upd (upd H1 p (.tup [.str "and"])) p1 (.tup [.str "or"])) p2 (.lst [.ref p, .ref p1]) p = some (.tup [.str (word true)]) := ((Same.new np1).trans (Same.new np2)) _ _ upd_same
            have hp1 : upd (upd (upd H1 p (.tup [.str "and"])) p1 (.tup [.str "or"])) p2 (.lst [.ref p, .ref p1]) p1 = some (.tup [.str (word false)]) := (Same.new np2) _ _ upd_same
            have hp2 : upd (upd (upd H1 p (.tup [.str "and"])) p1 (.tup [.str "or"])) p2 (.lst [.ref p, .ref p1]) p2 = some (.lst [.ref p, .ref p1]) := upd_same
            generalize upd (upd (upd H1 p (.tup [.str "and"])) p1 (.tup [.str "or"])) p2 (.lst [.ref p, .ref p1]) = H2 at u1 hp hp1 hp2
            obtain ⟨b, r, hr0, hr1⟩ : ∃ (b : Bool) (r : Addr), atI [V.ref p, V.ref p1] (way % 2) = some (.ref r) ∧ H2 r = some (.tup [.str (word b)]) := by
              have b0 := Int.emod_nonneg way (show (2 : Int) ≠ 0 by decide)
              have b1 := Int.emod_lt_of_pos way (show (0 : Int) < 2 by decide)
              rcases (show way % 2 = 0 ∨ way % 2 = 1 by omega) with e0 | e0
              · exact ⟨true, p, by rw [e0]; rfl, hp⟩
              · exact ⟨false, p1, by rw [e0]; rfl, hp1⟩
            refine ⟨p2, _, _, .ref r, rfl, rfl, SqL.of hp2, hr0, D, rfl, vs, .inl ⟨SqL.of (u1 _ _ hD), fun l nl => ?_⟩⟩
            have u2 := Same.new (o := .tup vs) nl
            refine ⟨r, l, _, _, rfl, rfl, SqT.of (u2 _ _ hr1), SqT.of upd_same, ?_⟩
            refine ⟨by simp, by rw [sizeLine_eq]; simp; omega, fun z => absurd hvl (by rw [z, List.length_nil]; omega), fun _ t nt => k _ _ (.grp b cs) (s1.trans (u1.trans (u2.trans (Same.new nt)))) (.grp upd_same (ts.mono (T := fun _ => False) (Same.imm (u1.trans (u2.trans (Same.new nt)))))) ⟨?_, ?_, ?_⟩⟩
            · rw [Cond.ok, g3]
              first | rfl | (simp; omega)
            · rw [Cond.size, most3]
              omega
            · rw [Cond.depth]
              omega
      · have con : ∀ i : Int, ∃ x, (SqL K H q x ∨ SqT K H q x) ∧ 0 < (x.length : Int) ∧ rIxL K (.ref q) (.int (i / 3 % (x.length : Int))) H fun x H1 => 0 + 1 + 1 ≤ sizeLine ∧ ∀ p : Addr, H1 p = none → Q (.ref p) (upd H1 p (.tup [.str "contact", x])) := by
          intro i
          have hl : 0 < ((ns.map V.str).length : Int) := by
            rw [List.length_map]
            have := List.length_pos_iff.mpr hne
            omega
          obtain ⟨y, hy, hya⟩ := atI_ex (xs := ns.map V.str) (i := i / 3 % ((ns.map V.str).length : Int)) (Int.emod_nonneg _ (by omega)) (Int.emod_lt_of_pos _ hl)
          obtain ⟨n', hn', rfl⟩ := List.mem_map.mp hy
          exact ⟨_, .inl (SqL.of hq), hl, q, _, _, .str n', rfl, rfl, SqL.of hq, hya, line_ge (by decide), fun t nt => k _ _ (.contact n') (Same.new nt) (.contact upd_same) ⟨hns n' hn', most3_pos d, by rw [Cond.depth]; omega⟩⟩
        refine ite2 (fun _ => ⟨_, _, rfl, _, rfl, ite2 (fun _ => ⟨_, _, rfl, _, rfl, line_ge (by decide), fun t nt => k _ _ (.fixed _) (Same.new nt) (.fixed upd_same) ⟨rfl, most3_pos d, by rw [Cond.depth]; omega⟩⟩) fun _ => ⟨_, _, rfl, _, rfl, con _⟩⟩) fun _ => ⟨_, _, rfl, _, rfl, con _⟩
/-! ### an end -/
/-- by its kind, and what it leaves of the list of names -/
def EndTo (kd : Int) (n : Str) (dn dn' : List Str) (e : EndC) : Prop := e.n = n ∧ 1 ≤ e.m ∧ e.m ≤ 9 ∧
  ((kd < 3 ∧ e.k.counts = false ∧ dn' = dn) ∨ (3 ≤ kd ∧ e.k = .unlatch ∧ dn' = dn) ∨ (3 ≤ kd ∧ e.k.counts = true ∧ n ∉ dn ∧ dn' = dn ++ [n]))
def spEndB : Sp := fun vs H Q _ => ∃ (c kd : Int) (n : Str) (p : Addr) (dn : List Str), vs = [.int c, .str n, .int kd, .ref p] ∧ 0 ≤ kd ∧ H p = some (.lst (dn.map V.str)) ∧ dn.length ≤ 1000 ∧
  ∀ (H' : Hp) (v : V) (e : EndC) (dn' : List Str), (∀ a o, a ≠ p → H a = some o → H' a = some o) → H' p = some (.lst (dn'.map V.str)) → EndTo kd n dn dn' e → IsEB H' v e → Q v H'
theorem ok_endB (T : TDraw K mg) : FnAt P w K mg base CX0 "_law_end" 2 ["_law_cell", "_law_name", "_law_kind", "_law_done"] spEndB := by
  have G__law_mixed : FnAt P w K mg base CX0 "_law_mixed" 1 _ spMixed := ok_mixed T.bn.cells
  refine fnAt_ok T.d_end sc__law_end (fun vs H Q E h => ?_) (fun f cdv A outer s H vs Q E hr h => ?_)
  · obtain ⟨c, kd, n, p, dn, rfl, _⟩ := h; rfl
  · obtain ⟨c, kd, n, p, dn, rfl, h0, hp, hl, k⟩ := h
    refine ⟨_, (pss_cons (ps_set (i := 4) sc__law_end.nd rfl (by first | exact Or.inl rfl | exact Or.inr rfl) (pe_op op_mod (pe_op op_fdiv (pe_callF G__law_mixed hr pass0 (pa_cons (pv 0) (pa_cons pe_int pa_nil))) pe_int) pe_int))
        (pss_cons (ps_if (pt_cmpR op_lt (pv 2) pe_int (nomark _)) (pss_one (ps_ret (pe_ix ix_list (pe_lst (pa_cons (pe_tup (pa_cons pe_str (pa_cons (pv 1) pa_nil))) (pa_cons (pe_tup (pa_cons pe_str (pa_cons (pv 1) pa_nil))) (pa_cons (pe_tup (pa_cons pe_str (pa_cons (pv 1) pa_nil))) pa_nil)))) (pv 4) (fun _ _ => rfl)))) pss_nil)
        (pss_cons (ps_if (PW.pt (pw_or (pt_cmpR op_in_seq (pv 1) (pv 3) rfl) (pw_or1 (pt_cmpR op_eq (pv 4) pe_int (nomark _))))) (pss_one (ps_ret (pe_tup (pa_cons pe_str (pa_cons (pv 1) pa_nil))))) pss_nil)
        (pss_cons (ps_expr (pe_bm PySem.F.plainAttrs_list PySem.F.slot_list_append PySem.F.type_list_append mt_append (pv 3) (pa_cons (pv 1) pa_nil)))
        (pss_cons (ps_set (i := 5) sc__law_end.nd rfl (by first | exact Or.inl rfl | exact Or.inr rfl) (pe_op op_add pe_int (pe_op op_mod (pe_op op_fdiv (pe_callF G__law_mixed hr pass0 (pa_cons (pv 0) (pa_cons pe_int pa_nil))) pe_int) (pe_ix ix_list (pe_lst (pa_cons pe_int (pa_cons pe_int (pa_cons pe_int pa_nil)))) (pe_op op_mod (pe_op op_fdiv (pe_callF G__law_mixed hr pass0 (pa_cons (pv 0) (pa_cons pe_int pa_nil))) pe_int) pe_int) (fun _ _ => rfl)))))
        (pss_one (ps_ret (pe_tup (pa_cons (pe_ix ix_list (pe_lst (pa_cons pe_str (pa_cons pe_str pa_nil))) (pe_op op_mod (pv 2) pe_int) (fun _ _ => rfl)) (pa_cons (pv 1) (pa_cons (pv 5) pa_nil))))))))))), ?_⟩
    walk_at "rd"
    refine ⟨_, _, rfl, _, rfl, ?_⟩
    have w0 := Int.emod_nonneg (mixed c 1 / 3) (show (3 : Int) ≠ 0 by decide)
    have w1 := Int.emod_lt_of_pos (mixed c 1 / 3) (show (0 : Int) < 3 by decide)
    generalize mixed c 1 / 3 % 3 = way at w0 w1 ⊢
    have un : 3 ≤ kd → 0 + 1 + 1 ≤ sizeLine ∧ ∀ t : Addr, H t = none → Q (.ref t) (upd H t (.tup [.str "reset", .str n])) := fun h3 => ⟨line_ge (by decide), fun t nt => k _ _ ⟨.unlatch, n, 1⟩ dn (fun a o _ e => Same.new nt a o e) (Same.new nt _ _ hp) ⟨rfl, Int.le_refl 1, (show (1 : Int) ≤ 9 by decide), .inr (.inl ⟨h3, rfl, rfl⟩)⟩ ⟨t, rfl, upd_same⟩⟩
    refine ite2 (fun hk => ⟨line_ge (by decide), fun a na => ⟨line_ge (by decide), fun b nb => ⟨line_ge (by decide), fun d nd => ⟨line_ge (by decide), fun l nl => ?_⟩⟩⟩⟩) (fun hk => ?_)
    · have u0 := (Same.new (o := .tup [.str "set", .str n]) nb).trans ((Same.new (o := .tup [.str "reset", .str n]) nd).trans (Same.new (o := .lst [.ref a, .ref b, .ref d]) nl))
      have u := (Same.new (o := .tup [.str "coil", .str n]) na).trans u0
      have ha := u0 _ _ upd_same
      have hb := ((Same.new (o := .tup [.str "reset", .str n]) nd).trans (Same.new (o := .lst [.ref a, .ref b, .ref d]) nl)) _ _ upd_same
      have hd := (Same.new (o := .lst [.ref a, .ref b, .ref d]) nl) _ _ upd_same
      obtain ⟨kk, r, h1, h2, h3⟩ : ∃ (kk : Ek) (r : Addr), atI [V.ref a, V.ref b, V.ref d] way = some (.ref r) ∧ kk.counts = false ∧ upd (upd (upd (upd H a (.tup [.str "coil", .str n])) b (.tup [.str "set", .str n])) d (.tup [.str "reset", .str n])) l (.lst [.ref a, .ref b, .ref d]) r = some (.tup ([.str kk.kindB, .str n] ++ if kk.counts = true then [.int 1] else [])) := by
        rcases (show way = 0 ∨ way = 1 ∨ way = 2 by omega) with e | e | e
        · exact ⟨.coil, a, by rw [e]; rfl, rfl, ha⟩
        · exact ⟨.latch, b, by rw [e]; rfl, rfl, hb⟩
        · exact ⟨.unlatch, d, by rw [e]; rfl, rfl, hd⟩
      exact ⟨l, _, _, .ref r, rfl, rfl, SqL.of upd_same, h1, k _ _ ⟨kk, n, 1⟩ dn (fun a o _ e => u a o e) (u _ _ hp) ⟨rfl, Int.le_refl 1, (show (1 : Int) ≤ 9 by decide), .inl ⟨of_decide_eq_true hk, h2, rfl⟩⟩ ⟨r, rfl, h3⟩⟩
    · have h3 : 3 ≤ kd := Int.not_lt.mp fun z => hk (decide_eq_true z)
      refine ⟨p, _, rfl, .inl (SqL.of hp), rfl, all_flatS dn, _, rfl, ite2 (fun _ => un h3) fun hin => ite2 (fun _ => un h3) fun _ => ?_⟩
      have nin : n ∉ dn := by
        intro z
        apply hin
        rw [if_neg Bool.false_ne_true, inV_strs]
        exact decide_eq_true z
      unfold tBM
      walk_at "rd"
      refine ⟨.inl ⟨rfl, _, SqL.of hp⟩, p, _, _, rfl, rfl, hp, by rw [List.length_map, sizeLine_eq]; omega, _, _, rfl, _, rfl, line_ge (by decide), fun p1 np1 => ⟨_, _, rfl, _, rfl, ?_⟩⟩
      have pp : upd H p (.lst (dn.map V.str ++ [.str n])) p = some (.lst ((dn ++ [n]).map V.str)) := by
        rw [upd_same, List.map_append]
        rfl
      have kp : ∀ a o, a ≠ p → H a = some o → upd H p (.lst (dn.map V.str ++ [.str n])) a = some o := fun a o na e => by
        rw [upd_ne na]
        exact e
      generalize upd H p (.lst (dn.map V.str ++ [.str n])) = H1 at np1 pp kp ⊢
      have m0 := Int.emod_nonneg (mixed c 3 / 3) (show (3 : Int) ≠ 0 by decide)
      have m1 := Int.emod_lt_of_pos (mixed c 3 / 3) (show (0 : Int) < 3 by decide)
      obtain ⟨x, hx, hx0, hx9⟩ : ∃ x : Int, atI [V.int 2, V.int 3, V.int 9] (mixed c 3 / 3 % 3) = some (.int x) ∧ 0 < x ∧ x ≤ 9 := by
        rcases (show mixed c 3 / 3 % 3 = 0 ∨ mixed c 3 / 3 % 3 = 1 ∨ mixed c 3 / 3 % 3 = 2 by omega) with e | e | e
        · exact ⟨2, by rw [e]; rfl, by decide, by decide⟩
        · exact ⟨3, by rw [e]; rfl, by decide, by decide⟩
        · exact ⟨9, by rw [e]; rfl, by decide, by decide⟩
      have x0 := Int.emod_nonneg (mixed c 2 / 3) (show x ≠ 0 by omega)
      have x1 := Int.emod_lt_of_pos (mixed c 2 / 3) hx0
      have u1 := Same.new (o := .lst [.int 2, .int 3, .int 9]) np1
      refine ⟨p1, _, _, .int x, rfl, rfl, SqL.of upd_same, hx, x, rfl, hx0, line_ge (by decide), fun p2 np2 => ?_⟩
      have u2 := u1.trans (Same.new (o := .lst [.str "timer", .str "counter"]) np2)
      obtain ⟨kk, hk1, hk2⟩ : ∃ kk : Ek, atI [V.str "timer", V.str "counter"] (kd % 2) = some (.str kk.kindB) ∧ kk.counts = true := by
        have b0 := Int.emod_nonneg kd (show (2 : Int) ≠ 0 by decide)
        have b1 := Int.emod_lt_of_pos kd (show (0 : Int) < 2 by decide)
        rcases (show kd % 2 = 0 ∨ kd % 2 = 1 by omega) with e | e
        · exact ⟨.timer, by rw [e]; rfl, rfl⟩
        · exact ⟨.counter, by rw [e]; rfl, rfl⟩
      refine ⟨p2, _, _, _, rfl, rfl, SqL.of upd_same, hk1, line_ge (by decide), fun t nt => ?_⟩
      have u3 := u2.trans (Same.new (o := .tup [.str kk.kindB, .str n, .int (1 + mixed c 2 / 3 % x)]) nt)
      refine k _ _ ⟨kk, n, 1 + mixed c 2 / 3 % x⟩ (dn ++ [n]) (fun a o na e => u3 _ _ (kp a o na e)) (u3 _ _ pp) ⟨rfl, (show 1 ≤ 1 + mixed c 2 / 3 % x by omega), (show 1 + mixed c 2 / 3 % x ≤ 9 by omega), .inr (.inr ⟨h3, hk2, nin, rfl⟩)⟩ ⟨t, rfl, ?_⟩
      rw [if_pos hk2]
      exact upd_same
/-! ### no count's name is borne twice -/
structure FitB (ct : Str → Prop) (rs : List Rg) (bn : List Str) : Prop where
  low : ∀ n, ¬ ct n → (bears n rs).any id = false
  high : ∀ n, ct n → (n ∉ bn ∧ bears n rs = []) ∨ (n ∈ bn ∧ bears n rs = [true])
section
variable {ct : Str → Prop} {rs : List Rg} {bn : List Str} {r : Rg}
theorem FitB.crowd (h : FitB ct rs bn) : crowd rs = false := by
  unfold My.crowd
  rw [← Bool.not_eq_true, List.any_eq_true]
  rintro ⟨r, _, hr⟩
  rw [Bool.and_eq_true, decide_eq_true_eq] at hr
  by_cases hn : ct r.e.n
  · rcases h.high r.e.n hn with ⟨_, e⟩ | ⟨_, e⟩ <;> rw [e] at hr <;> simp at hr
  · rw [h.low _ hn] at hr
    exact nomatch hr.2
theorem FitB.un (h : FitB ct rs bn) (hk : r.e.k = .unlatch) : FitB ct (rs ++ [r]) bn := by
  have e : ∀ n, bears n (rs ++ [r]) = bears n rs := fun n => by rw [bears_snoc, if_neg (by rw [decide_eq_true hk]; simp)]
  exact ⟨fun n hn => by rw [e]; exact h.low n hn, fun n hn => by rw [e]; exact h.high n hn⟩
theorem FitB.plain (h : FitB ct rs bn) (hn : ¬ ct r.e.n) (hk : r.e.k.counts = false) : FitB ct (rs ++ [r]) bn := by
  refine ⟨fun n hl => ?_, fun n hl => ?_⟩
  · rw [bears_snoc]
    split
    · rw [List.any_append, h.low n hl]
      simp [hk]
    · exact h.low n hl
  · have e : ¬ r.e.n = n := fun q => hn (q ▸ hl)
    rw [bears_snoc, if_neg (by rw [decide_eq_false e]; simp)]
    exact h.high n hl
theorem FitB.count (h : FitB ct rs bn) (hn : ct r.e.n) (hb : r.e.n ∉ bn) (hk : r.e.k.counts = true) : FitB ct (rs ++ [r]) (bn ++ [r.e.n]) := by
  have hu : r.e.k ≠ .unlatch := fun q => by rw [q] at hk; cases hk
  refine ⟨fun n hl => ?_, fun n hl => ?_⟩
  · have e : ¬ r.e.n = n := fun q => hl (q ▸ hn)
    rw [bears_snoc, if_neg (by rw [decide_eq_false e]; simp)]
    exact h.low n hl
  · by_cases e : r.e.n = n
    · subst e
      refine .inr ⟨by simp, ?_⟩
      rw [bears_snoc, if_pos (by rw [decide_eq_true rfl, decide_eq_false hu]; rfl)]
      rcases h.high _ hl with ⟨_, e⟩ | ⟨q, _⟩
      · rw [e, hk]; rfl
      · exact absurd q hb
    · rw [bears_snoc, if_neg (by rw [decide_eq_false e]; simp)]
      rcases h.high n hl with ⟨q1, q2⟩ | ⟨q1, q2⟩
      · exact .inl ⟨by simp [q1]; exact fun z => e z.symm, q2⟩
      · exact .inr ⟨List.mem_append_left _ q1, q2⟩
theorem FitB.more {kd : Int} {dn' : List Str} (h : FitB ct rs bn) (hct : ct r.e.n ↔ 3 ≤ kd) (e : EndTo kd r.e.n bn dn' r.e) : FitB ct (rs ++ [r]) dn' := by
  obtain ⟨_, _, _, ⟨h1, h2, rfl⟩ | ⟨h1, h2, rfl⟩ | ⟨h1, h2, h3, rfl⟩⟩ := e
  · exact h.plain (fun z => absurd (hct.mp z) (by omega)) h2
  · exact h.un h2
  · exact h.count (hct.mpr h1) h3 h2
end
/-! ### the rungs -/
theorem cutV_of {l : List V} {i n : Nat} (h : i + n ≤ l.length) : cutV l (some (i : Int)) (some ((i + n : Nat) : Int)) = (l.drop i).take n := by
  unfold cutV
  rw [HT.sIx_nat, HT.sIx_nat, Nat.min_eq_left h, Nat.min_eq_left (by omega : i ≤ l.length), Nat.add_sub_cancel_left]
theorem cutV_mostly (l : List V) (i n : Nat) : ∃ k, cutV l (some (i : Int)) (some ((i + n : Nat) : Int)) = (l.drop i).take k ∧ k ≤ n := by
  unfold cutV
  rw [HT.sIx_nat, HT.sIx_nat]
  by_cases h : i ≤ l.length
  · rw [Nat.min_eq_left h]
    exact ⟨_, rfl, by omega⟩
  · rw [Nat.min_eq_right (by omega : l.length ≤ i), List.drop_of_length_le (Nat.le_refl _), List.drop_of_length_le (by omega : l.length ≤ i)]
    exact ⟨0, by simp, by omega⟩
/-- the written names -/
def bSome (c : Int) (n : Nat) : List Str := (List.range n).map fun j => bName c (6 + j)
theorem bSome_len (c : Int) (n : Nat) : (bSome c n).length = n := by simp [bSome]
theorem bSome_cut (c : Int) {n : Nat} (h : n ≤ 22) : cutV ((bNames c).map V.str) (some 6) (some ((6 + n : Nat) : Int)) = (bSome c n).map V.str := by
  rw [show (6 : Int) = ((6 : Nat) : Int) from rfl, cutV_of (by rw [List.length_map, bNames_len]; omega), ← List.map_drop, ← List.map_take]
  congr 1
  apply List.ext_getElem?
  intro j
  unfold bSome
  by_cases hj : j < n
  · rw [List.getElem?_take_of_lt hj, List.getElem?_drop, bNames_at c (by omega), List.getElem?_map, List.getElem?_range hj]
    rfl
  · rw [List.getElem?_eq_none (by rw [List.length_take]; omega), List.getElem?_eq_none (by rw [List.length_map, List.length_range]; omega)]
theorem bSome_ok (c : Int) {n : Nat} (h : n ≤ 22) : ∀ x ∈ bSome c n, isName x = true := by
  intro x hx
  obtain ⟨j, hj, rfl⟩ := List.mem_map.mp hx
  have := List.mem_range.mp hj
  exact bName_ok c (by omega)
theorem bSome_at (c : Int) {n : Nat} {i : Int} (h0 : 0 ≤ i) (h1 : i < n) : atI ((bSome c n).map V.str) i = some (.str (bName c (6 + i.toNat))) := by
  refine atI_int h0 ?_
  unfold bSome
  rw [List.getElem?_map, List.getElem?_map, List.getElem?_range (by omega)]
  rfl
theorem imm_but {T : Addr → Prop} {H H' : Hp} {p : Addr} {xs : List V} (hp : H p = some (.lst xs)) (k : ∀ a o, a ≠ p → H a = some o → H' a = some o) : Imm T H H' := fun a o e i => by
  by_cases z : a = p
  · rw [z, hp] at e
    cases e
    exact absurd i id
  · exact k a o z e
def spRungsB (K : PySem.W.Frag) : Sp := fun vs H Q _ => ∃ (a i q : Addr) (script : List Int) (c : Int) (is_ : List Str), vs = [.ref a, .ref i, .ref q] ∧ SqL K H a (script.map V.int) ∧ SqT K H i (is_.map V.str) ∧ (∀ n ∈ is_, isName n = true) ∧ is_.length ≤ 6 ∧ H q = some (.lst ((bNames c).map V.str)) ∧
  ∀ (H' : Hp) (p : Addr) (ws : List V) (rs : List Rg), Same H H' → H p = none → H' p = some (.lst ws) → Two (IsRB H') ws rs → (∀ r ∈ rs, r.ok) → (∀ r ∈ rs, ∃ j : Nat, j < 20 ∧ r.e.n = bName c (6 + j)) → 1 ≤ rs.length → rs.length ≤ 30 → crowd rs = false → Q (.ref p) H'
theorem ok_rungsB (T : TDraw K mg) : FnAt P w K mg base CX0 "_law_rungs" 6 ["_law_script", "_law_inputs", "_law_names_here"] (spRungsB K) := by
  have G__law_mixed : FnAt P w K mg base CX0 "_law_mixed" 1 _ spMixed := ok_mixed T.bn.cells
  have G__law_cell_at : FnAt P w K mg base CX0 "_law_cell_at" 1 _ (spCellAt K) := ok_cell_at T.bn.cells
  have G__law_told : FnAt P w K mg base CX0 "_law_told" 5 _ (spToldB 4) := ok_toldB T 4
  have G__law_end : FnAt P w K mg base CX0 "_law_end" 2 _ spEndB := ok_endB T
  refine fnAt_ok T.d_rungs sc__law_rungs (fun vs H Q E h => ?_) (fun f cdv A outer s H vs Q E hr h => ?_)
  · obtain ⟨a, i, q, script, c, is_, rfl, _⟩ := h; rfl
  · obtain ⟨a, i, q, script, c, is_, rfl, hS, hi, hin, hil, hq, k⟩ := h
    have hu := hu_of hr
    refine ⟨_, (pss_cons (ps_set (i := 3) sc__law_rungs.nd rfl (by first | exact Or.inl rfl | exact Or.inr rfl) (pe_op op_fdiv (pe_callF G__law_mixed hr pass0 (pa_cons (pe_callF G__law_cell_at hr pass0 (pa_cons (pv 0) (pa_cons pe_int pa_nil))) (pa_cons pe_int pa_nil))) pe_int))
        (pss_cons (ps_set (i := 4) sc__law_rungs.nd rfl (by first | exact Or.inl rfl | exact Or.inr rfl) (pe_slice sl_list (pv 2) (po_some pe_int) (po_some (pe_op op_add (pe_op op_add pe_int pe_int) (pe_op op_mod (pv 3) (pe_ix ix_list (pe_lst (pa_cons pe_int (pa_cons pe_int pa_nil))) (pe_op op_mod (pe_op op_fdiv (pv 3) pe_int) pe_int) (fun _ _ => rfl)))))))
        (pss_cons (ps_set (i := 5) sc__law_rungs.nd rfl (by first | exact Or.inl rfl | exact Or.inr rfl) (pe_lst pa_nil))
        (pss_cons (ps_set (i := 6) sc__law_rungs.nd rfl (by first | exact Or.inl rfl | exact Or.inr rfl) (pe_lst pa_nil))
        (pss_cons (ps_for PassesOwn.never rfl (pi_list (pe_slice sl_list (pv 0) (po_some pe_int) (po_some (pe_op op_add pe_int (pe_ix ix_list (pe_lst (pa_cons pe_int (pa_cons pe_int pa_nil))) (pe_op op_mod (pe_op op_fdiv (pv 3) pe_int) pe_int) (fun _ _ => rfl)))))) (pg_name (i := 7) sc__law_rungs.nd rfl (by first | exact Or.inl rfl | exact Or.inr rfl)) (pss_cons (ps_set (i := 8) sc__law_rungs.nd rfl (by first | exact Or.inl rfl | exact Or.inr rfl) (pe_op op_mod (pe_op op_fdiv (pe_callF G__law_mixed hr pass0 (pa_cons (pv 7) (pa_cons pe_int pa_nil))) pe_int) (pe_callB call_len_seq (by rfl) T.z_len PySem.boot_len (pa_cons (pv 4) pa_nil))))
          (pss_cons (ps_set (i := 9) sc__law_rungs.nd rfl (by first | exact Or.inl rfl | exact Or.inr rfl) (pe_callF G__law_end hr pass0 (pa_cons (pv 7) (pa_cons (pe_ix ix_list (pv 4) (pv 8) (fun _ _ => rfl)) (pa_cons (pe_op op_mod (pe_op op_fdiv (pe_callF G__law_mixed hr pass0 (pa_cons (pe_callF G__law_cell_at hr pass0 (pa_cons (pv 0) (pa_cons pe_int pa_nil))) (pa_cons (pv 8) pa_nil))) pe_int) pe_int) (pa_cons (pv 6) pa_nil))))))
          (pss_cons (ps_set (i := 10) sc__law_rungs.nd rfl (by first | exact Or.inl rfl | exact Or.inr rfl) (pe_callF G__law_told hr pass0 (pa_cons (pv 7) (pa_cons (pe_op op_cat (pe_op op_cat (pe_callTy call_list_of (by rfl) T.z_list (show PySem.bootBuiltins "list" = some (.type "list") by decide +kernel) (pa_cons (pv 1) pa_nil)) (pv 4)) (pe_slice sl_list (pv 2) (po_some pe_int) po_none)) (pa_cons (pe_op op_mod (pe_op op_fdiv (pe_callF G__law_mixed hr pass0 (pa_cons (pv 7) (pa_cons pe_int pa_nil))) pe_int) pe_int) pa_nil)))))
          (pss_one (ps_expr (pe_bm PySem.F.plainAttrs_list PySem.F.slot_list_append PySem.F.type_list_append mt_append (pv 5) (pa_cons (pe_tup (pa_cons (pv 10) (pa_cons (pv 9) pa_nil))) pa_nil))))))))
        (C8.pss_cut (ps_if (pt_cmpR (op_eqE hr.units0) (pv 5) (pe_lst pa_nil) (nomark _)) (pss_one (ps_expr (pe_bm PySem.F.plainAttrs_list PySem.F.slot_list_append PySem.F.type_list_append mt_append (pv 5) (pa_cons (pe_tup (pa_cons (pe_tup (pa_cons pe_str (pa_cons (pe_ix ix_list (pv 2) pe_int (fun _ _ => rfl)) pa_nil))) (pa_cons (pe_tup (pa_cons pe_str (pa_cons (pe_ix ix_list (pv 2) pe_int (fun _ _ => rfl)) pa_nil))) pa_nil))) pa_nil)))) pss_nil)
        (pss_one (ps_ret (pv 5))))))))), ?_⟩
    walk_at "rd"
    refine ⟨a, script, 1, rfl, hS, by decide, _, _, rfl, _, rfl, line_ge (by decide), fun p1 np1 => ?_⟩
    have sz0 := mixed_nn (cellAt script 1) 95
    generalize mixed (cellAt script 1) 95 / 3 = size
    have s0 := Int.emod_nonneg (size / 20) (show (2 : Int) ≠ 0 by decide)
    have s1 := Int.emod_lt_of_pos (size / 20) (show (0 : Int) < 2 by decide)
    obtain ⟨x, hx, hx4⟩ : ∃ x : Int, atI [V.int 4, V.int 20] (size / 20 % 2) = some (.int x) ∧ (x = 4 ∨ x = 20) := by
      rcases (show size / 20 % 2 = 0 ∨ size / 20 % 2 = 1 by omega) with e | e
      · exact ⟨4, by rw [e]; rfl, .inl rfl⟩
      · exact ⟨20, by rw [e]; rfl, .inr rfl⟩
    have x0 := Int.emod_nonneg size (show x ≠ 0 by omega)
    have x1 := Int.emod_lt_of_pos size (show 0 < x by omega)
    have u1 := Same.new (o := .lst [.int 4, .int 20]) np1
    refine ⟨p1, _, _, .int x, rfl, rfl, SqL.of upd_same, hx, x, rfl, by omega, ?_⟩
    obtain ⟨n, hn, hn1, hn20⟩ : ∃ n : Nat, (6 : Int) + 1 + size % x = ((6 + n : Nat) : Int) ∧ 1 ≤ n ∧ n ≤ 20 := ⟨(1 + size % x).toNat, by omega, by omega, by omega⟩
    rw [hn]
    refine ⟨q, _, rfl, SqL.of (u1 _ _ hq), fun ps nps => ?_⟩
    rw [bSome_cut c (by omega)]
    have u2 := u1.trans (Same.new (o := .lst ((bSome c n).map V.str)) nps)
    have hps : upd (upd H p1 (.lst [.int 4, .int 20])) ps (.lst ((bSome c n).map V.str)) ps = some (.lst ((bSome c n).map V.str)) := upd_same
    generalize upd (upd H p1 (.lst [.int 4, .int 20])) ps (.lst ((bSome c n).map V.str)) = H2 at u2 hps ⊢
    refine ⟨Nat.zero_le _, fun pm npm => ⟨Nat.zero_le _, fun pd npd => ?_⟩⟩
    have u3 := (Same.new (o := .lst []) npm).trans (Same.new (o := .lst []) npd)
    have hpm : upd (upd H2 pm (.lst [])) pd (.lst []) pm = some (.lst []) := Same.new npd _ _ upd_same
    have hpd : upd (upd H2 pm (.lst [])) pd (.lst []) pd = some (.lst (([] : List Str).map V.str)) := upd_same
    have nmd : pm ≠ pd := ne_of_none upd_same npd
    have ssm : Same H2 (upd (upd H2 pm (.lst [])) pd (.lst [])) := u3
    have hpmN : H2 pm = none := npm
    have hpdN : H2 pd = none := (Same.new (o := .lst []) npm).free npd
    generalize upd (upd H2 pm (.lst [])) pd (.lst []) = H3 at u3 hpm hpd ssm ⊢
    obtain ⟨m, hm, hm30⟩ : ∃ m : Nat, atI [V.int 10, V.int 30] (size / 20 % 2) = some (.int m) ∧ m ≤ 30 := by
      rcases (show size / 20 % 2 = 0 ∨ size / 20 % 2 = 1 by omega) with e | e
      · exact ⟨10, by rw [e]; rfl, by decide⟩
      · exact ⟨30, by rw [e]; rfl, by decide⟩
    obtain ⟨kc, hkc, hkm⟩ := cutV_mostly (script.map V.int) 4 m
    rw [← List.map_drop, ← List.map_take] at hkc
    have hcl : ((script.drop 4).take kc).length ≤ 30 := by rw [List.length_take]; omega
    generalize (script.drop 4).take kc = cells at hkc hcl
    have s03 : Same H H3 := u2.trans ssm
    unfold iList
    walk_at "rd"
    refine ⟨_, rfl, line_ge (by decide), fun pt npt => ⟨_, rfl, size, rfl, pt, _, _, .int m, rfl, rfl, SqL.of upd_same, hm, m, rfl, a, _, rfl, Same.seq (s03.trans (Same.new npt)) hS, fun pc npc => ?_⟩⟩
    have e4 : cutV (script.map V.int) (some 4) (some (4 + (m : Int))) = cells.map V.int := by
      rw [show (4 : Int) + (m : Int) = ((4 + m : Nat) : Int) by omega]
      exact hkc
    rw [e4]
    have s35 := (Same.new (o := .lst [.int 10, .int 30]) npt).trans (Same.new (o := .lst (cells.map V.int)) npc)
    have hpc : upd (upd H3 pt (.lst [.int 10, .int 30])) pc (.lst (cells.map V.int)) pc = some (.lst (cells.map V.int)) := upd_same
    have npm5 : pm ≠ pc := ne_of_none ((Same.new (o := .lst [.int 10, .int 30]) npt) _ _ hpm) npc
    have npd5 : pd ≠ pc := ne_of_none ((Same.new (o := .lst [.int 10, .int 30]) npt) _ _ hpd) npc
    have nps5 : ps ≠ pc := ne_of_none ((Same.new (o := .lst [.int 10, .int 30]) npt) _ _ (ssm _ _ hps)) npc
    generalize upd (upd H3 pt (.lst [.int 10, .int 30])) pc (.lst (cells.map V.int)) = H5 at s35 hpc ⊢
    let ct : Str → Prop := fun z => ∃ j : Nat, j < 20 ∧ z = bName c (6 + j) ∧ 3 ≤ mixed (cellAt script 2) j / 3 % 6
    refine ⟨pc, rfl, ⟨_, SqL.of hpc⟩, for_list (K := K) (a := pc) (xs := cells.map V.int)
      (fun j σ H' => ∃ (v7 v8 v9 v10 : Option V) (ws : List V) (rs : List Rg) (dn : List Str), σ = [some (.ref a), some (.ref i), some (.ref q), some (.int size), some (.ref ps), some (.ref pm), some (.ref pd), v7, v8, v9, v10] ∧ Same H2 H' ∧ H' pc = some (.lst (cells.map V.int)) ∧ H' pm = some (.lst ws) ∧ H' pd = some (.lst (dn.map V.str)) ∧
        Two (IsRB H') ws rs ∧ rs.length = j ∧ dn.length ≤ j ∧ (∀ r ∈ rs, r.ok) ∧ (∀ r ∈ rs, ∃ j : Nat, j < 20 ∧ r.e.n = bName c (6 + j)) ∧ FitB ct rs dn)
      ⟨none, none, none, none, [], [], [], rfl, ssm.trans s35, hpc, s35 _ _ hpm, s35 _ _ hpd, .nil, rfl, Nat.le_refl _, by simp, by simp, ⟨fun _ _ => rfl, fun _ _ => .inl ⟨by simp, rfl⟩⟩⟩
      (fun j σ H' _ ⟨_, _, _, _, _, _, _, _, _, h, _⟩ => SqL.of h) ?_ ?_⟩
    · rintro j y σ H6 hy ⟨v7, v8, v9, v10, ws, rs, dn, rfl, s26, hc6, hm6, hd6, htw, hrl, hdl, hok, hnm, hfit⟩
      rw [List.getElem?_map] at hy
      obtain ⟨cell, hcell, rfl⟩ := Option.map_eq_some_iff.mp hy
      have hj : j < cells.length := (List.getElem?_eq_some_iff.mp hcell).1
      walk_at "rd"
      refine ⟨_, _, rfl, _, rfl, (bSome c n).map V.str, .inl (SqL.of (s26 _ _ hps)), by rw [List.length_map, bSome_len]; omega, ?_⟩
      rw [List.length_map, bSome_len]
      have a0 := Int.emod_nonneg (mixed cell 4 / 3) (show (n : Int) ≠ 0 by omega)
      have a1 := Int.emod_lt_of_pos (mixed cell 4 / 3) (show (0 : Int) < n by omega)
      generalize mixed cell 4 / 3 % (n : Int) = at_ at a0 a1 ⊢
      refine ⟨ps, _, _, _, rfl, rfl, SqL.of (s26 _ _ hps), bSome_at c a0 a1, a, script, 2, rfl, Same.seq (u2.trans s26) hS, by decide, _, _, rfl, _, rfl, ?_⟩
      have k0 := Int.emod_nonneg (mixed (cellAt script 2) at_ / 3) (show (6 : Int) ≠ 0 by decide)
      refine ⟨cell, _, _, pd, dn, rfl, k0, hd6, by omega, fun H7 v e dn' k7 hd7 eto pe => ?_⟩
      have s27 : Same H2 H7 := fun z o ez => k7 z o (ne_of_none ez hpdN) (s26 z o ez)
      have hm7 := k7 _ _ nmd hm6
      have hc7 := k7 _ _ npd5.symm hc6
      have htw7 : Two (IsRB H7) ws rs := htw.mono fun _ _ p => p.mono (T := fun _ => False) (imm_but hd6 k7)
      have hq7 := (u2.trans s27) _ _ hq
      refine ⟨_, .inr (Same.seqT (u2.trans s27) hi), fun l nl => ?_⟩
      have t1 := Same.new (o := .lst (is_.map V.str)) nl
      refine ⟨l, ps, _, _, rfl, rfl, upd_same, t1 _ _ (s27 _ _ hps), line_ge (by rw [List.length_map, List.length_map, bSome_len]; omega), fun l2 nl2 => ?_⟩
      have t2 := t1.trans (Same.new (o := .lst (is_.map V.str ++ (bSome c n).map V.str)) nl2)
      refine ⟨q, _, rfl, SqL.of (t2 _ _ hq7), fun l3 nl3 => ?_⟩
      rw [show (27 : Int) = ((27 : Nat) : Int) from rfl, cutV_from, ← List.map_drop]
      have t3 := t2.trans (Same.new (o := .lst (((bNames c).drop 27).map V.str)) nl3)
      refine ⟨l2, l3, _, _, rfl, rfl, Same.new nl3 _ _ upd_same, upd_same, line_ge (by simp [bSome_len, bNames_len]; omega), fun l4 nl4 => ?_⟩
      have t4 := t3.trans (Same.new (o := .lst (is_.map V.str ++ (bSome c n).map V.str ++ ((bNames c).drop 27).map V.str)) nl4)
      obtain ⟨d, hd, hd4⟩ : ∃ d : Nat, mixed cell 5 / 3 % 4 = (d : Int) ∧ d < 4 := by
        have b0 := Int.emod_nonneg (mixed cell 5 / 3) (show (4 : Int) ≠ 0 by decide)
        have b1 := Int.emod_lt_of_pos (mixed cell 5 / 3) (show (0 : Int) < 4 by decide)
        exact ⟨(mixed cell 5 / 3 % 4).toNat, by omega, by omega⟩
      refine ⟨_, _, rfl, _, rfl, cell, l4, is_ ++ bSome c n ++ (bNames c).drop 27, d, by rw [hd], hd4, by rw [upd_same, List.map_append, List.map_append], fun z => ?_, fun x hx => ?_, fun H8 tv tc s8 pt fc => ?_⟩
      · have := congrArg List.length z
        simp [bSome_len] at this
        omega
      · rcases List.mem_append.mp hx with hx | hx
        · rcases List.mem_append.mp hx with hx | hx
          · exact hin x hx
          · exact bSome_ok c (by omega) x hx
        · exact bNames_ok c x (List.mem_of_mem_drop hx)
      have s78 := t4.trans s8
      unfold tBM
      walk_at "rd"
      have hm8 := s78 _ _ hm7
      have hwl := htw7.length
      have en := eto.1
      have edn : dn'.length ≤ dn.length + 1 := by
        obtain ⟨_, _, _, ⟨_, _, rfl⟩ | ⟨_, _, rfl⟩ | ⟨_, _, _, rfl⟩⟩ := eto <;> simp
      have hct : ct e.n ↔ 3 ≤ mixed (cellAt script 2) at_ / 3 % 6 := by
        constructor
        · rintro ⟨k', hk, hz, h3⟩
          have e1 := bName_inj c (by omega) (by omega) (en.symm.trans hz)
          have e2 : (k' : Int) = at_ := by omega
          rw [e2] at h3
          exact h3
        · intro h3
          exact ⟨at_.toNat, by omega, en, by rw [Int.toNat_of_nonneg a0]; exact h3⟩
      have m40 : ∀ d < 4, most3 d ≤ 40 := by decide
      have hrg : Rg.ok ⟨tc, e⟩ := by
        refine ⟨fc.1, Nat.le_trans fc.2.1 (Nat.le_trans (m40 d hd4) (by decide)), Nat.le_trans fc.2.2 (by omega), ?_, eto.2.1, eto.2.2.1⟩
        show isName e.n = true
        rw [en]
        exact bName_ok c (by omega)
      refine ⟨.inl ⟨rfl, _, SqL.of hm8⟩, line_ge (by decide), fun t nt => ?_⟩
      have s79 := s78.trans (Same.new (o := .tup [tv, v]) nt)
      have hm9 := s79 _ _ hm7
      have im : Imm (fun _ => False) (upd H8 t (.tup [tv, v])) (upd (upd H8 t (.tup [tv, v])) pm (.lst (ws ++ [.ref t]))) := Imm.mut hm9 id
      refine ⟨pm, _, _, rfl, rfl, hm9, by rw [sizeLine_eq]; omega, _, _, _, _, ⟨rfl, rfl, rfl, rfl⟩, Same.mut (s27.trans s79) hpmN, (by rw [upd_ne npm5.symm]; exact s79 _ _ hc7), ws ++ [.ref t], upd_same, rs ++ [⟨tc, e⟩], dn', (by rw [upd_ne nmd.symm]; exact s79 _ _ hd7), ?_, by simp [hrl], by omega, fun r hr' => ?_, fun r hr' => ?_, hfit.more hct (by rw [← en] at eto; exact eto)⟩
      · refine ((htw7.mono fun _ _ p => p.mono (T := fun _ => False) (Same.imm s79)).mono fun _ _ p => p.mono im).app (.one ⟨t, tv, v, rfl, im _ _ upd_same trivial, (pt.mono (T := fun _ => False) (Same.imm (Same.new nt))).mono im, ?_⟩)
        exact IsEB.mono im (IsEB.mono (T := fun _ => False) (Same.imm s79) pe)
      · rcases List.mem_append.mp hr' with hr' | hr'
        · exact hok r hr'
        · rw [List.mem_singleton.mp hr']
          exact hrg
      · rcases List.mem_append.mp hr' with hr' | hr'
        · exact hnm r hr'
        · rw [List.mem_singleton.mp hr']
          exact ⟨at_.toNat, by omega, en⟩
    · rintro σ H6 ⟨v7, v8, v9, v10, ws, rs, dn, rfl, s26, hc6, hm6, hd6, htw, hrl, hdl, hok, hnm, hfit⟩
      refine ⟨fun σ' H' => ∃ (ws : List V) (rs : List Rg) (dn : List Str), σ' = [some (.ref a), some (.ref i), some (.ref q), some (.int size), some (.ref ps), some (.ref pm), some (.ref pd), v7, v8, v9, v10] ∧ Same H2 H' ∧ H' pm = some (.lst ws) ∧ Two (IsRB H') ws rs ∧ (∀ r ∈ rs, r.ok) ∧ (∀ r ∈ rs, ∃ j : Nat, j < 20 ∧ r.e.n = bName c (6 + j)) ∧ 1 ≤ rs.length ∧ rs.length ≤ 30 ∧ crowd rs = false, ?_, ?_⟩
      · walk_at "rd"
        refine ⟨Nat.zero_le _, fun pe npe => ?_⟩
        have v1 := Same.new (o := .lst []) npe
        have hwl := htw.length
        rw [List.length_map] at hrl
        refine ⟨pm, pe, ws, rfl, rfl, SqL.of (v1 _ _ hm6), SqL.of upd_same, _, rfl, ite2 (fun he => ?_) (fun he => ?_)⟩
        · obtain rfl := List.isEmpty_iff.mp he
          unfold tBM
          walk_at "rd"
          have hq6 := (u2.trans s26).trans v1
          have bix : ∀ {k : Nat}, k < 28 → atI ((bNames c).map V.str) (k : Int) = some (.str (bName c k)) := fun hk => atI_nat (by rw [List.getElem?_map, bNames_at c hk]; rfl)
          refine ⟨.inl ⟨rfl, _, SqL.of (v1 _ _ hm6)⟩, q, _, 0, _, rfl, rfl, SqL.of (hq6 _ _ hq), bix (k := 0) (by decide), line_ge (by decide), fun t nt => ?_⟩
          have v2 := v1.trans (Same.new (o := .tup [.str "contact", .str (bName c 0)]) nt)
          refine ⟨q, _, 6, _, rfl, rfl, SqL.of (Same.new nt _ _ (hq6 _ _ hq)), bix (k := 6) (by decide), line_ge (by decide), fun t2 nt2 => ⟨line_ge (by decide), fun t3 nt3 => ?_⟩⟩
          have w2 := (Same.new (o := .tup [.str "coil", .str (bName c 6)]) nt2).trans (Same.new (o := .tup [.ref t, .ref t2]) nt3)
          have v3 := v2.trans w2
          have hm9 := v3 _ _ hm6
          refine ⟨pm, _, _, rfl, rfl, hm9, line_ge (by decide), Same.mut (s26.trans v3) hpmN, _, upd_same, [⟨.contact (bName c 0), ⟨.coil, bName c 6, 1⟩⟩], ?_, ?_, ?_, Nat.le_refl _, (show 1 ≤ 30 by decide), ?_⟩
          · have im : Imm (fun _ => False) (upd (upd (upd (upd H6 pe (.lst [])) t (.tup [.str "contact", .str (bName c 0)])) t2 (.tup [.str "coil", .str (bName c 6)])) t3 (.tup [.ref t, .ref t2])) (upd (upd (upd (upd (upd H6 pe (.lst [])) t (.tup [.str "contact", .str (bName c 0)])) t2 (.tup [.str "coil", .str (bName c 6)])) t3 (.tup [.ref t, .ref t2])) pm (.lst ([] ++ [.ref t3]))) := Imm.mut hm9 id
            refine .one ⟨t3, .ref t, .ref t2, rfl, im _ _ upd_same trivial, IsT.mono im (.contact (w2 _ _ upd_same)), ?_⟩
            exact ⟨t2, rfl, im _ _ (Same.new nt3 _ _ upd_same) trivial⟩
          · intro r hr'
            rw [List.mem_singleton.mp hr']
            exact ⟨bName_ok c (by decide), (show 1 ≤ 60 by decide), (show 1 ≤ 20 by decide), bName_ok c (by decide), Int.le_refl 1, (show (1 : Int) ≤ 9 by decide)⟩
          · intro r hr'
            rw [List.mem_singleton.mp hr']
            exact ⟨0, by decide, rfl⟩
          · simp [crowd, bears]
        · have hne : ws ≠ [] := fun z => he (List.isEmpty_iff.mpr z)
          have hpos := List.length_pos_iff.mpr hne
          exact ⟨s26.trans v1, ws, v1 _ _ hm6, rs, htw.mono fun _ _ p => p.mono (T := fun _ => False) (Same.imm v1), hok, hnm, by omega, by omega, hfit.crowd⟩
      rintro σ' H9 ⟨ws, rs, dn, rfl, s29, hm9, htw9, hok9, hnm9, h1, h30, hcr⟩
      walk_at "rd"
      exact k H9 pm ws rs (u2.trans s29) (u2.free hpmN) hm9 htw9 hok9 hnm9 h1 h30 hcr
/-! ### all of it -/
theorem nodup_len : ∀ {l m : List Str}, l.Nodup → (∀ x ∈ l, x ∈ m) → l.length ≤ m.length
  | [], _, _, _ => Nat.zero_le _
  | x :: l, m, h, hs => by
    have h1 := List.nodup_cons.mp h
    have hx := hs x List.mem_cons_self
    have e := nodup_len (m := m.erase x) h1.2 fun y hy => (List.mem_erase_of_ne (fun e : y = x => h1.1 (e ▸ hy))).mpr (hs y (List.mem_cons_of_mem _ hy))
    rw [List.length_erase_of_mem hx] at e
    have := List.length_pos_of_mem hx
    rw [List.length_cons]
    omega
def spDrawnC (K : PySem.W.Frag) : Sp := fun vs H Q _ => ∃ (a : Addr) (script : List Int), vs = [.ref a] ∧ SqL K H a (script.map V.int) ∧ ∀ (H' : Hp) (v : V) (l : Lad), Same H H' → IsDr K H' v l → l.fair = true → l.named = true → (∀ r ∈ l.rs, r.ok) → (∀ n ∈ l.ins ++ writ l.rs, ∃ j : Nat, j < 26 ∧ n = bName (cellAt script 0) j) → Q v H'
theorem ok_drawnC (T : TDraw K mg) : FnAt P w K mg base CX0 "_law_drawn" 7 ["_law_script"] (spDrawnC K) := by
  have G__law_mixed : FnAt P w K mg base CX0 "_law_mixed" 1 _ spMixed := ok_mixed T.bn.cells
  have G__law_cell_at : FnAt P w K mg base CX0 "_law_cell_at" 1 _ (spCellAt K) := ok_cell_at T.bn.cells
  have G__law_names : FnAt P w K mg base CX0 "_law_names" 3 _ spBNames := ok_bnames T.bn
  have G__law_rungs : FnAt P w K mg base CX0 "_law_rungs" 6 _ (spRungsB K) := ok_rungsB T
  refine fnAt_ok T.d_drawn sc__law_drawn (fun vs H Q E h => ?_) (fun f cdv A outer s H vs Q E hr h => ?_)
  · obtain ⟨a, script, rfl, _⟩ := h; rfl
  · obtain ⟨a, script, rfl, hS, k⟩ := h
    have hu := hu_of hr
    refine ⟨_, (pss_cons (ps_set (i := 1) sc__law_drawn.nd rfl (by first | exact Or.inl rfl | exact Or.inr rfl) (pe_callF G__law_names hr pass0 (pa_cons (pe_callF G__law_cell_at hr pass0 (pa_cons (pv 0) (pa_cons pe_int pa_nil))) pa_nil)))
        (pss_cons (ps_set (i := 2) sc__law_drawn.nd rfl (by first | exact Or.inl rfl | exact Or.inr rfl) (pe_callTy call_tuple_of (by rfl) T.z_tuple (show PySem.bootBuiltins "tuple" = some (.type "tuple") by decide +kernel) (pa_cons (pe_slice sl_list (pv 1) po_none (po_some (pe_op op_mod (pe_op op_fdiv (pe_callF G__law_mixed hr pass0 (pa_cons (pe_callF G__law_cell_at hr pass0 (pa_cons (pv 0) (pa_cons pe_int pa_nil))) (pa_cons pe_int pa_nil))) pe_int) pe_int))) pa_nil)))
        (C8.pss_cut (ps_if (pt_cmpR op_eq (pe_op op_mod (pe_callF G__law_cell_at hr pass0 (pa_cons (pv 0) (pa_cons pe_int pa_nil))) pe_int) pe_int (nomark _)) (pss_one (ps_set (i := 2) sc__law_drawn.nd rfl (by first | exact Or.inl rfl | exact Or.inr rfl) (Rv.pe_tupRevT rfl rfl T.z_tuple rfl T.z_reversed (pv 2)))) pss_nil)
        (pss_cons (ps_set (i := 3) sc__law_drawn.nd rfl (by first | exact Or.inl rfl | exact Or.inr rfl) (pe_callF G__law_rungs hr pass0 (pa_cons (pv 0) (pa_cons (pv 2) (pa_cons (pv 1) pa_nil)))))
        (pss_cons (ps_set (i := 4) sc__law_drawn.nd rfl (by first | exact Or.inl rfl | exact Or.inr rfl) (pe_lst pa_nil))
        (pss_cons (ps_for PassesOwn.never rfl (pi_list (pv 3)) (pg_tup rfl (pgs_cons (pg_name (i := 5) sc__law_drawn.nd rfl (by first | exact Or.inl rfl | exact Or.inr rfl)) (pgs_cons (pg_name (i := 6) sc__law_drawn.nd rfl (by first | exact Or.inl rfl | exact Or.inr rfl)) pgs_nil))) (pss_one (ps_if (pt_cmpR op_notIn_seq (pe_ix ix_tup (pv 6) pe_int (fun _ _ => rfl)) (pv 4) rfl) (pss_one (ps_expr (pe_bm PySem.F.plainAttrs_list PySem.F.slot_list_append PySem.F.type_list_append mt_append (pv 4) (pa_cons (pe_ix ix_tup (pv 6) pe_int (fun _ _ => rfl)) pa_nil)))) pss_nil)))
        (pss_cons (ps_set (i := 7) sc__law_drawn.nd rfl (by first | exact Or.inl rfl | exact Or.inr rfl) (pe_op op_mod (pe_op op_fdiv (pe_callF G__law_mixed hr pass0 (pa_cons (pe_callF G__law_cell_at hr pass0 (pa_cons (pv 0) (pa_cons pe_int pa_nil))) (pa_cons pe_int pa_nil))) pe_int) (pe_callB call_len_seq (by rfl) T.z_len PySem.boot_len (pa_cons (pv 4) pa_nil))))
        (pss_cons (ps_set (i := 8) sc__law_drawn.nd rfl (by first | exact Or.inl rfl | exact Or.inr rfl) (pe_slice sl_list (pe_op op_cat (pe_slice sl_list (pv 4) (po_some (pv 7)) po_none) (pe_slice sl_list (pv 4) po_none (po_some (pv 7)))) po_none (po_some (pe_op op_add pe_int (pe_op op_mod (pe_op op_fdiv (pe_callF G__law_mixed hr pass0 (pa_cons (pe_callF G__law_cell_at hr pass0 (pa_cons (pv 0) (pa_cons pe_int pa_nil))) (pa_cons pe_int pa_nil))) pe_int) pe_int)))))
        (pss_one (ps_ret (pe_tup (pa_cons (pv 2) (pa_cons (pe_callTy call_tuple_of (by rfl) T.z_tuple (show PySem.bootBuiltins "tuple" = some (.type "tuple") by decide +kernel) (pa_cons (pv 8) pa_nil)) (pa_cons (pv 3) pa_nil)))))))))))))), ?_⟩
    walk_at "rd"
    refine ⟨a, script, 0, rfl, hS, by decide, _, rfl, fun H1 pn s1 _ hpn => ?_⟩
    generalize hcS : cellAt script 0 = c at hpn ⊢
    refine ⟨a, script, 3, rfl, Same.seq s1 hS, by decide, _, _, rfl, _, rfl, pn, _, rfl, SqL.of hpn, fun l nl => ⟨l, rfl, _, .inl ⟨SqL.of upd_same, fun t nt => ?_⟩⟩⟩
    obtain ⟨m, hm, hm6⟩ : ∃ m : Nat, mixed (cellAt script 3) 96 / 3 % 7 = (m : Int) ∧ m ≤ 6 := by
      have b0 := Int.emod_nonneg (mixed (cellAt script 3) 96 / 3) (show (7 : Int) ≠ 0 by decide)
      have b1 := Int.emod_lt_of_pos (mixed (cellAt script 3) 96 / 3) (show (0 : Int) < 7 by decide)
      exact ⟨(mixed (cellAt script 3) 96 / 3 % 7).toNat, by omega, by omega⟩
    rw [hm, cutV_to, ← List.map_take] at nt ⊢
    have s2 := s1.trans ((Same.new (o := .lst (((bNames c).take m).map V.str)) nl).trans (Same.new (o := .tup (((bNames c).take m).map V.str)) nt))
    have ht : upd (upd H1 l (.lst (((bNames c).take m).map V.str))) t (.tup (((bNames c).take m).map V.str)) t = some (.tup (((bNames c).take m).map V.str)) := upd_same
    have hpn2 := ((Same.new (o := .lst (((bNames c).take m).map V.str)) nl).trans (Same.new (o := .tup (((bNames c).take m).map V.str)) nt)) _ _ hpn
    generalize upd (upd H1 l (.lst (((bNames c).take m).map V.str))) t (.tup (((bNames c).take m).map V.str)) = H2 at s2 ht hpn2 ⊢
    refine ⟨fun σ' H' => ∃ (t : Addr) (is_ : List Str), σ' = [some (.ref a), some (.ref pn), some (.ref t), none, none, none, none, none, none] ∧ Same H2 H' ∧ H' t = some (.tup (is_.map V.str)) ∧ is_.Perm ((bNames c).take m), ?_, ?_⟩
    · walk_at "rd"
      refine ⟨a, script, 3, rfl, Same.seq s2 hS, by decide, _, rfl, ite2 (fun _ => ?_) (fun _ => ?_)⟩
      · refine ⟨_, rfl, t, _, rfl, SqT.of ht, fun q nq => ?_⟩
        walk_at "rd"
        rw [← List.map_reverse]
        exact ⟨Same.new nq, _, upd_same, List.reverse_perm _⟩
      · exact ⟨Same.refl _, _, ht, .refl _⟩
    rintro σ' H3 ⟨t, is_, rfl, s3, ht3, hperm⟩
    have hil : is_.length ≤ 6 := by
      rw [hperm.length_eq, List.length_take]
      omega
    have hio : ∀ n ∈ is_, isName n = true := fun n hn => bNames_ok c n (List.mem_of_mem_take (hperm.mem_iff.mp hn))
    walk_at "rd"
    refine ⟨a, t, pn, script, c, is_, rfl, Same.seq (s2.trans s3) hS, SqT.of ht3, hio, hil, s3 _ _ hpn2, fun H4 p ws rs s4 np hp htw hok hnm h1 h30 hcr => ?_⟩
    refine ⟨Nat.zero_le _, fun pb npb => ?_⟩
    have s5 := Same.new (o := .lst []) npb
    have hp5 := s5 _ _ hp
    have htw5 : Two (IsRB (upd H4 pb (.lst []))) ws rs := htw.mono fun _ _ p => p.mono (T := fun _ => False) (Same.imm s5)
    have hlen := htw.length
    have s15 := (s2.trans s3).trans (s4.trans s5)
    have hb5 : upd H4 pb (.lst []) pb = some (.lst ((writ (rs.take 0)).map V.str)) := upd_same
    have ht5 := (s4.trans s5) _ _ ht3
    have npb' := npb
    generalize upd H4 pb (.lst []) = H5 at s5 hp5 htw5 s15 hb5 ht5 ⊢
    refine ⟨_, rfl, p, rfl, ⟨_, SqL.of hp5⟩, for_list (K := K) (a := p) (xs := ws) (fun j σ H' => ∃ v5 v6 : Option V, σ = [some (.ref a), some (.ref pn), some (.ref t), some (.ref p), some (.ref pb), v5, v6, none, none] ∧ Same H4 H' ∧ H' p = some (.lst ws) ∧ Two (IsRB H') ws rs ∧ H' pb = some (.lst ((writ (rs.take j)).map V.str)))
      ⟨none, none, rfl, s5, hp5, htw5, hb5⟩ (fun j σ H' _ ⟨_, _, _, _, h, _⟩ => SqL.of h) ?_ ?_⟩
    · rintro j y σ H6 hy ⟨v5, v6, rfl, s6, hp6, htw6, hb6⟩
      obtain ⟨r, hr', t', x, e, rfl, htr, hxc, te, rfl, hte⟩ := htw6.at hy
      refine ⟨t', _, rfl, SqT.of htr, rfl, ?_⟩
      walk_at "rd"
      have hwr : writ (rs.take (j + 1)) = addW (writ (rs.take j)) r.e.n := by
        rw [List.take_succ, hr', Option.toList_some, writ_snoc]
      rw [hwr]
      have hwl := writ_len (rs.take j)
      rw [List.length_take] at hwl
      refine ⟨te, _, 1, .str r.e.n, rfl, rfl, SqT.of hte, eb1 _, pb, _, rfl, .inl (SqL.of hb6), rfl, all_flatS _, _, rfl, ?_⟩
      rw [if_pos rfl, inV_strs]
      by_cases hin : r.e.n ∈ writ (rs.take j)
      · rw [decide_eq_true hin]
        refine iteF ⟨_, _, ⟨rfl, rfl⟩, s6, hp6, htw6, ?_⟩
        unfold addW
        rw [if_pos hin]
        exact hb6
      · rw [decide_eq_false hin]
        refine iteT ?_
        unfold tBM
        walk_at "rd"
        refine ⟨.inl ⟨rfl, _, SqL.of hb6⟩, te, _, 1, .str r.e.n, rfl, rfl, SqT.of hte, eb1 _, pb, _, _, rfl, rfl, hb6, by rw [List.length_map, sizeLine_eq]; omega, _, _, ⟨rfl, rfl⟩, Same.mut s6 npb', ?_, ?_, ?_⟩
        · rw [upd_ne (ne_of_none hp npb')]
          exact hp6
        · exact htw6.mono fun _ _ p => p.mono (T := fun _ => False) (Imm.mut hb6 id)
        · unfold addW
          rw [if_neg hin, upd_same, List.map_append]
          rfl
    · rintro σ H6 ⟨v5, v6, rfl, s6, hp6, htw6, hb6⟩
      rw [hlen, List.take_length] at hb6
      walk_at "rd"
      have s26 := s2.trans (s3.trans (s4.trans s6))
      have hne : rs ≠ [] := List.ne_nil_of_length_pos (by omega)
      have hwp := writ_pos hne
      have hwl := writ_len rs
      refine ⟨a, script, 3, rfl, Same.seq s26 hS, by decide, _, _, rfl, _, rfl, _, .inl (SqL.of hb6), by rw [List.length_map]; omega, ?_⟩
      rw [List.length_map]
      obtain ⟨g, hg, hgl⟩ : ∃ g : Nat, mixed (cellAt script 3) 41 / 3 % ((writ rs).length : Int) = (g : Int) ∧ g < (writ rs).length := by
        have b0 := Int.emod_nonneg (mixed (cellAt script 3) 41 / 3) (show ((writ rs).length : Int) ≠ 0 by omega)
        have b1 := Int.emod_lt_of_pos (mixed (cellAt script 3) 41 / 3) (show (0 : Int) < ((writ rs).length : Int) by omega)
        exact ⟨(mixed (cellAt script 3) 41 / 3 % ((writ rs).length : Int)).toNat, by omega, by omega⟩
      rw [hg]
      refine ⟨pb, _, rfl, SqL.of hb6, fun l1 nl1 => ⟨pb, _, rfl, SqL.of (Same.new nl1 _ _ hb6), fun l2 nl2 => ?_⟩⟩
      rw [cutV_from, ← List.map_drop] at nl2
      rw [cutV_from, cutV_to, ← List.map_drop, ← List.map_take]
      have v1 := Same.new (o := .lst (((writ rs).drop g).map V.str)) nl1
      have v2 := v1.trans (Same.new (o := .lst (((writ rs).take g).map V.str)) nl2)
      refine ⟨l1, l2, _, _, rfl, rfl, Same.new nl2 _ _ upd_same, upd_same, line_ge (by rw [List.length_map, List.length_map, List.length_drop, List.length_take]; omega), fun l3 nl3 => ?_⟩
      rw [← List.map_append] at *
      have v3 := v2.trans (Same.new (o := .lst (((writ rs).drop g ++ (writ rs).take g).map V.str)) nl3)
      refine ⟨a, script, 3, rfl, Same.seq (s26.trans v3) hS, by decide, _, _, rfl, _, rfl, l3, _, rfl, SqL.of upd_same, fun l4 nl4 => ?_⟩
      obtain ⟨q, hq, hq1, hq6⟩ : ∃ q : Nat, 1 + mixed (cellAt script 3) 42 / 3 % 6 = (q : Int) ∧ 1 ≤ q ∧ q ≤ 6 := by
        have b0 := Int.emod_nonneg (mixed (cellAt script 3) 42 / 3) (show (6 : Int) ≠ 0 by decide)
        have b1 := Int.emod_lt_of_pos (mixed (cellAt script 3) 42 / 3) (show (0 : Int) < 6 by decide)
        exact ⟨(1 + mixed (cellAt script 3) 42 / 3 % 6).toNat, by omega, by omega, by omega⟩
      rw [hq, cutV_to, ← List.map_take]
      have v4 := v3.trans (Same.new (o := .lst ((((writ rs).drop g ++ (writ rs).take g).take q).map V.str)) nl4)
      refine ⟨l4, rfl, _, .inl ⟨SqL.of upd_same, fun l5 nl5 => ⟨line_ge (by decide), fun l6 nl6 => ?_⟩⟩⟩
      have v5 := (Same.new (o := .tup ((((writ rs).drop g ++ (writ rs).take g).take q).map V.str)) nl5).trans (Same.new (o := .tup [.ref t, .ref l5, .ref p]) nl6)
      have v6 := v4.trans v5
      have hmem : ∀ x ∈ ((writ rs).drop g ++ (writ rs).take g).take q, x ∈ writ rs := fun x hx => by
        rcases List.mem_append.mp (List.mem_of_mem_take hx) with h | h
        · exact List.mem_of_mem_drop h
        · exact List.mem_of_mem_take h
      have hwm : ∀ x ∈ writ rs, ∃ j : Nat, j < 20 ∧ x = bName c (6 + j) := fun x hx => by
        obtain ⟨r, hr', rfl⟩ := (writ_mem _).mp hx
        exact hnm r hr'
      have hnd : ((writ rs).drop g ++ (writ rs).take g).Nodup := by
        have e := writ_nodup rs
        rw [← List.take_append_drop g (writ rs)] at e
        exact (List.perm_append_comm.nodup_iff).mp e
      refine k _ _ ⟨is_, ((writ rs).drop g ++ (writ rs).take g).take q, rs⟩ (s26.trans v6) ⟨l6, t, l5, p, ws, rfl, upd_same, .inl (v6 _ _ ((s4.trans s6) _ _ ht3)), .inl (Same.new nl6 _ _ upd_same), v6 _ _ hp6, htw6.mono fun _ _ p => p.mono (T := fun _ => False) (Same.imm v6)⟩ ((fair_iff _).mpr ⟨hil, ?_, ?_, ?_, ⟨h1, h30⟩, ?_, hmem, hcr, ?_⟩) ?_ hok ?_
      · exact hperm.nodup_iff.mpr ((bNames_nodup c).sublist (List.take_sublist _ _))
      · show 1 ≤ (((writ rs).drop g ++ (writ rs).take g).take q).length ∧ (((writ rs).drop g ++ (writ rs).take g).take q).length ≤ 6
        rw [List.length_take, List.length_append, List.length_drop, List.length_take]
        omega
      · exact hnd.sublist (List.take_sublist _ _)
      · intro x hx hw
        obtain ⟨j, hj, rfl⟩ := hwm x hw
        have hx2 := hperm.mem_iff.mp hx
        obtain ⟨i, hi, e⟩ := List.getElem_of_mem hx2
        rw [List.length_take, bNames_len] at hi
        have e2 : (bNames c)[i]? = some (bName c i) := bNames_at c (by omega)
        have e3 : ((bNames c).take m)[i]? = some (bName c i) := by rw [List.getElem?_take_of_lt (by omega), e2]
        rw [List.getElem?_eq_getElem (by rw [List.length_take, bNames_len]; omega)] at e3
        have e4 := bName_inj c (by omega) (by omega) ((Option.some.inj e3).symm.trans e)
        omega
      · have e := nodup_len (writ_nodup rs) (m := bSome c 20) fun x hx => by
          obtain ⟨j, hj, rfl⟩ := hwm x hx
          exact List.mem_map.mpr ⟨j, List.mem_range.mpr hj, rfl⟩
        rw [bSome_len] at e
        exact e
      · unfold Lad.named
        rw [List.all_eq_true]
        intro x hx
        rcases List.mem_append.mp hx with hx | hx
        · exact hio x hx
        · obtain ⟨j, hj, rfl⟩ := hwm x (hmem x hx)
          exact bName_ok c (by omega)
      · intro x hx
        rw [hcS]
        rcases List.mem_append.mp hx with hx | hx
        · have hx2 := hperm.mem_iff.mp hx
          obtain ⟨i, hi, e⟩ := List.getElem_of_mem hx2
          rw [List.length_take, bNames_len] at hi
          have e2 : (bNames c)[i]? = some (bName c i) := bNames_at c (by omega)
          have e3 : ((bNames c).take m)[i]? = some (bName c i) := by rw [List.getElem?_take_of_lt (by omega), e2]
          rw [List.getElem?_eq_getElem (by rw [List.length_take, bNames_len]; omega)] at e3
          exact ⟨i, by omega, by rw [← e]; exact Option.some.inj e3⟩
        · obtain ⟨j, hj, rfl⟩ := hwm x hx
          exact ⟨6 + j, by omega, rfl⟩
def spDrawnB (K : PySem.W.Frag) : Sp := fun vs H Q _ => ∃ (a : Addr) (script : List Int), vs = [.ref a] ∧ SqL K H a (script.map V.int) ∧ ∀ (H' : Hp) (v : V) (l : Lad), Same H H' → IsDr K H' v l → l.fair = true → l.named = true → (∀ r ∈ l.rs, r.ok) → Q v H'
theorem ok_drawnB (T : TDraw K mg) : FnAt P w K mg base CX0 "_law_drawn" 7 ["_law_script"] (spDrawnB K) :=
  (ok_drawnC T).imp fun _ _ _ _ ⟨a, sc, h1, h2, h3⟩ => ⟨a, sc, h1, h2, fun H' v l s d f n o _ => h3 H' v l s d f n o⟩
end

--%% N15
/-! ## works: its image, its answers -/
abbrev s_Works_image : Stmt := inClass (top 25) 7
theorem sc_Works_image : FnScope ["self"] ["self"] (defScope s_Works_image) := ⟨rfl, rfl, rfl, by decide +kernel, rfl, by decide +kernel, by decide +kernel⟩
abbrev s_Works_answers : Stmt := inClass (top 25) 6
theorem sc_Works_answers : FnScope ["self", "name"] ["self"] (defScope s_Works_answers) := ⟨rfl, rfl, rfl, by decide +kernel, rfl, by decide +kernel, by decide +kernel⟩
/-- a field in a comprehension's element -/
theorem pe_fldK {X : Cx} {e : Expr} {f : Str} {pos : Pos} {ta : TE} (K : PySem.W.Frag) (h : X.K = K) (he : PE X e ta) (hb : attributeBase e f X.env (eval e X.env) = eval e X.env) : PE X (.Attribute e f pos) (tFld K ta f) := h ▸ pe_fld he hb
structure TAsk2 (K : PySem.W.Frag) (mg : Str → Option Value) (cs : Cs) (cc : Addr) (xc : Xc) (cw : Addr) : Prop where
  wk : TWorks K mg cs cc xc cw
  m_image : MethAt K cw "image" "Works.image" s_Works_image ["self"]
  m_answers : MethAt K cw "answers" "Works.answers" s_Works_answers ["self"]
  z_dict : mg "dict" = none
  z_tuple : mg "tuple" = none
section
variable {P : Program} {w : World} {K : PySem.W.Frag} {mg : Str → Option Value} {base : Heap} {cs : Cs} {cc : Addr} {xc : Xc} {cw : Addr}
def spImage (cw : Addr) : Sp := fun vs H Q _ => ∃ (x dx b c s : Addr) (lv : V) (u : Ws), vs = [.ref x] ∧ H x = some (.ins cw dx (wkF lv b c s)) ∧ Tri H b c s u ∧ ∀ (H' : Hp) (d : Addr), Same H H' → H d = none → H' d = some (.dK (dL V.bl u.bits)) → Q (.ref d) H'
theorem disp_image (T : TAsk2 K mg cs cc xc cw) : DispAt P w K mg base CX0 (fun C => C = cw) "image" 1 ["self"] (fun _ vs H Q _ => spImage cw vs H Q E0) := by
  refine ⟨fun C hC => ?_⟩
  subst hC
  refine methAt_ok T.wk.c_Works.cl T.m_image sc_Works_image (fun vs H Q E h => ?_) (fun f cdv A outer st H vs Q E hr h => ?_)
  · obtain ⟨x, dx, b, c, s, lv, u, rfl, _⟩ := h; rfl
  · obtain ⟨x, dx, b, c, s, lv, u, rfl, hx, ht, k⟩ := h
    have hu := hu_of hr
    refine ⟨_, (pss_one (ps_ret (pe_callTy call_dictD (by rfl) T.z_dict (show PySem.bootBuiltins "dict" = some (.type "dict") by decide +kernel) (pa_cons (pe_fld (pv 0) rfl) pa_nil)))), ?_⟩
    walk_at "rd"
    exact ⟨_, rfl, x, _, dx, _, _, rfl, hx, T.wk.c_Works.cl, T.wk.nb_wk, lkW2, b, rfl, _, .inl ht.hb, fun p np => k _ p (Same.new np) np upd_same⟩
def spAnswers (K : PySem.W.Frag) (cs : Cs) (cw : Addr) : Sp := fun vs H Q _ => ∃ (x dx b c s : Addr) (lv : V) (u : Ws) (l : Lad), vs = [.ref x] ∧ H x = some (.ins cw dx (wkF lv b c s)) ∧ IsL K cs H lv l ∧ Tri H b c s u ∧ (∀ n ∈ l.outs, n ∈ keysL u.bits) ∧ l.outs.length ≤ 1000 ∧
  ∀ (H' : Hp) (t : Addr), Same H H' → H t = none → H' t = some (.tup ((l.outs.map fun n => (getL u.bits n).getD false).map V.bl)) → Q (.ref t) H'
theorem disp_answers (T : TAsk2 K mg cs cc xc cw) : DispAt P w K mg base CX0 (fun C => C = cw) "answers" 1 ["self"] (fun _ vs H Q _ => spAnswers K cs cw vs H Q E0) := by
  refine ⟨fun C hC => ?_⟩
  subst hC
  refine methAt_ok T.wk.c_Works.cl T.m_answers sc_Works_answers (fun vs H Q E h => ?_) (fun f cdv A outer st H vs Q E hr h => ?_)
  · obtain ⟨x, dx, b, c, s, lv, u, l, rfl, _⟩ := h; rfl
  · obtain ⟨x, dx, b, c, s, lv, u, l, rfl, hx, hl, ht, hk, ho, k⟩ := h
    have hu := hu_of hr
    refine ⟨_, (pss_one (ps_ret (pe_callTy call_tuple_of (by rfl) T.z_tuple (show PySem.bootBuiltins "tuple" = some (.type "tuple") by decide +kernel) (pa_cons (pe_lc (own := [("name", 1)]) (g := gName 1) (tt := tYes) rfl sc_Works_answers.nd (pi_tup (pe_fld (pe_fld (pv 0) rfl) rfl)) (blkOk_by (own := [("name", 1)]) (N := ["self", "name"]) (sc := defScope s_Works_answers) (by decide +kernel)) (fun _ _ _ _ _ => pg_name (i := 1) sc_Works_answers.nd rfl (Or.inl rfl)) (fun _ _ _ _ _ => pts_nil) (fun _ _ _ _ _ => (pe_dget (by exact hu) (pe_fldK K rfl (pv 0) rfl) (pv 1) (fun _ _ => rfl)))) pa_nil)))), ?_⟩
    walk_at "rd"
    obtain ⟨al, dl, ti, tt, tr, ws, rfl, hal, h1, h2, h3, h4⟩ := id hl
    refine ⟨_, rfl, x, _, dx, _, _, rfl, hx, T.wk.c_Works.cl, T.wk.nl_wk, lkW1, al, _, dl, _, _, rfl, hal, T.wk.lad.c_Ladder.cl, T.wk.lad.no_ld, lkL2, tt, rfl, ⟨_, h2.seq⟩, fun D nD => lc_tup (K := K) (a := tt) (xs := l.outs.map V.str) (fun i H' => Same H H' ∧ H' D = some (.lst (((l.outs.map fun n => (getL u.bits n).getD false).map V.bl).take i))) ⟨Same.new nD, upd_same⟩ (fun i H' _ q => Same.seqT q.1 h2.seq) ?_ ?_⟩
    · rintro i y H2 hy ⟨q1, q2⟩
      rw [List.getElem?_map] at hy
      obtain ⟨n, hn, rfl⟩ := Option.map_eq_some_iff.mp hy
      obtain ⟨v, hv⟩ := getL_mem.mpr (hk n (List.mem_of_getElem? hn))
      refine ⟨rfl, _, rfl, x, _, dx, _, _, rfl, q1 _ _ hx, T.wk.c_Works.cl, T.wk.nb_wk, lkW2, _, rfl, b, .bl v, rfl, .inl ⟨_, .inr n, .inl (q1 _ _ ht.hb), rfl, by rw [dL_get, hv]; rfl⟩, ?_⟩
      exact lc_push q1 nD q2 (by rw [List.getElem?_map, List.getElem?_map, hn]; simp [hv]) (by rw [List.length_map, List.length_map]; omega)
    · rintro H2 ⟨q1, q2⟩
      rw [List.length_map, List.take_of_length_le (by simp)] at q2
      exact ⟨D, rfl, _, .inl ⟨SqL.of q2, fun t nt => k _ t (q1.trans (Same.new nt)) (q1.free nt) upd_same⟩⟩
end

--%% N16
/-! ## a drawn ladder of all ends: made -/
section
variable {P : Program} {w : World} {K : PySem.W.Frag} {mg : Str → Option Value} {base : Heap} {cs : Cs} {cc : Addr} {xc : Xc}
/-- the kind that stands so far -/
def pickE (S : Ek → Bool) (k : Ek) : Ek := if S k then k else .coil
theorem ok_made22 (T : TMade K mg cs cc xc) : FnAt P w K mg base CX0 "_law_made" 27 ["_law_drawn_here"] (spMade K cs fun _ => true) := by
  have TE := T.lad.enk.ends
  have X := T.lad.exs
  have M_Coil := (init_en (P := P) (w := w) (base := base) TE X .coil TE.c_Coil TE.m_init_coil).calm
  have M_Latch := (init_en (P := P) (w := w) (base := base) TE X .latch TE.c_Latch TE.m_init_latch).calm
  have M_Unlatch := (init_en (P := P) (w := w) (base := base) TE X .unlatch TE.c_Unlatch TE.m_init_unlatch).calm
  have M_Timer := (init_co (P := P) (w := w) (base := base) TE X .timer TE.c_Timer TE.m_init_timer).calm
  have M_Counter := (init_co (P := P) (w := w) (base := base) TE X .counter TE.c_Counter TE.m_init_counter).calm
  have M_Ladder := (ok_init_ld (P := P) (w := w) (base := base) T.lad).calm
  have M_Rung := ok_init_rg (P := P) (w := w) (base := base) T.lad
  have G_part_of : FnAt P w K mg base CX0 "part_of" 26 _ (spPartOf cs.cl) := ok_part_of T.pof
  refine fnAt_ok T.d_made sc__law_made (fun vs H Q E h => ?_) (fun f cdv A outer st H vs Q E hr h => ?_)
  · obtain ⟨v, l, rfl, _⟩ := h; rfl
  · obtain ⟨v, l, rfl, hd, hfair, hnm, hok, k⟩ := h
    obtain ⟨a, ti, tt, p, ws, rfl, ha, h1, h2, h3, h4⟩ := id hd
    refine ⟨_, (pss_cons (ps_set (i := 1) sc__law_made.nd rfl (by first | exact Or.inl rfl | exact Or.inr rfl) (pe_lst pa_nil))
        (pss_cons (ps_for PassesOwn.never rfl (pi_list (pe_ix ix_tup (pv 0) pe_int (fun _ _ => rfl))) (pg_tup rfl (pgs_cons (pg_name (i := 2) sc__law_made.nd rfl (by first | exact Or.inl rfl | exact Or.inr rfl)) (pgs_cons (pg_name (i := 3) sc__law_made.nd rfl (by first | exact Or.inl rfl | exact Or.inr rfl)) pgs_nil))) (pss_cons (ps_set (i := 4) sc__law_made.nd rfl (by first | exact Or.inl rfl | exact Or.inr rfl) (pe_makeF M_Coil hr pass0 (pa_cons (pe_ix ix_tup (pv 3) pe_int (fun _ _ => rfl)) pa_nil)))
          (C8.pss_cut (ps_if (pt_cmpR op_eq (pe_ix ix_tup (pv 3) pe_int (fun _ _ => rfl)) pe_str (nomark _)) (pss_one (ps_set (i := 4) sc__law_made.nd rfl (by first | exact Or.inl rfl | exact Or.inr rfl) (pe_makeF M_Latch hr pass0 (pa_cons (pe_ix ix_tup (pv 3) pe_int (fun _ _ => rfl)) pa_nil)))) pss_nil)
          (C8.pss_cut (ps_if (pt_cmpR op_eq (pe_ix ix_tup (pv 3) pe_int (fun _ _ => rfl)) pe_str (nomark _)) (pss_one (ps_set (i := 4) sc__law_made.nd rfl (by first | exact Or.inl rfl | exact Or.inr rfl) (pe_makeF M_Unlatch hr pass0 (pa_cons (pe_ix ix_tup (pv 3) pe_int (fun _ _ => rfl)) pa_nil)))) pss_nil)
          (C8.pss_cut (ps_if (pt_cmpR op_eq (pe_ix ix_tup (pv 3) pe_int (fun _ _ => rfl)) pe_str (nomark _)) (pss_one (ps_set (i := 4) sc__law_made.nd rfl (by first | exact Or.inl rfl | exact Or.inr rfl) (pe_makeF M_Timer hr pass0 (pa_cons (pe_ix ix_tup (pv 3) pe_int (fun _ _ => rfl)) (pa_cons (pe_ix ix_tup (pv 3) pe_int (fun _ _ => rfl)) pa_nil))))) pss_nil)
          (C8.pss_cut (ps_if (pt_cmpR op_eq (pe_ix ix_tup (pv 3) pe_int (fun _ _ => rfl)) pe_str (nomark _)) (pss_one (ps_set (i := 4) sc__law_made.nd rfl (by first | exact Or.inl rfl | exact Or.inr rfl) (pe_makeF M_Counter hr pass0 (pa_cons (pe_ix ix_tup (pv 3) pe_int (fun _ _ => rfl)) (pa_cons (pe_ix ix_tup (pv 3) pe_int (fun _ _ => rfl)) pa_nil))))) pss_nil)
          (pss_one (ps_expr (pe_bm PySem.F.plainAttrs_list PySem.F.slot_list_append PySem.F.type_list_append mt_append (pv 1) (pa_cons (pe_makeF M_Rung hr pass0 (pa_cons (pe_callF G_part_of hr pass0 (pa_cons (pv 2) pa_nil)) (pa_cons (pv 4) pa_nil))) pa_nil))))))))))
        (pss_one (ps_ret (pe_makeF M_Ladder hr pass0 (pa_cons (pe_ix ix_tup (pv 0) pe_int (fun _ _ => rfl)) (pa_cons (pe_ix ix_tup (pv 0) pe_int (fun _ _ => rfl)) (pa_cons (pv 1) pa_nil)))))))), ?_⟩
    walk_at "rd"
    refine ⟨Nat.zero_le _, fun pr nr => ?_⟩
    have hlen := h4.length
    refine ⟨_, rfl, a, _, 2, .ref p, rfl, rfl, SqT.of (Same.new nr _ _ ha), rfl, p, rfl, ⟨_, SqL.of (Same.new nr _ _ h3)⟩,
      for_list (K := K) (a := p) (xs := ws) (fun i σ H' => ∃ (v2 v3 v4 : Option V) (us : List V), σ = [some (.ref a), some (.ref pr), v2, v3, v4] ∧ Same H H' ∧ H' pr = some (.lst us) ∧ Two (IsR cs H') us (l.rs.take i)) ⟨none, none, none, [], rfl, Same.new nr, upd_same, .nil⟩ (fun i σ H' _ ⟨_, _, _, _, _, s, _⟩ => SqL.of (s _ _ h3)) ?_ ?_⟩
    · rintro i y σ H1 hy ⟨v2, v3, v4, us, rfl, s1, hpr, htw⟩
      obtain ⟨r, hr', t, x, e, rfl, htr, hxc, te, rfl, hte⟩ := h4.at hy
      have hrm := List.mem_of_getElem? hr'
      obtain ⟨⟨o1, o2, o3, o4, o5, o6⟩, _⟩ := hok r hrm
      have hul := htw.length
      rw [List.length_take] at hul
      obtain ⟨f1, f2, f3, f4, f5, f6, f7, f8, f9⟩ := (fair_iff l).mp hfair
      refine ⟨t, _, rfl, SqT.of (s1 _ _ htr), rfl, ?_⟩
      walk_at "rd"
      refine ⟨_, rfl, te, _, 1, .str r.e.n, rfl, rfl, SqT.of (s1 _ _ hte), eb1 _, ?_⟩
      refine fun x2 dx2 nx nd _ => mk_enC (k := .coil) (m := r.e.m) nx nd rfl o4 fun H2 s2 p2 => ⟨rfl, ?_⟩
      have p2' : IsE cs.ce H2 (.ref x2) ⟨pickE (fun _ => false) r.e.k, r.e.n, r.e.m⟩ := p2
      have hte10 := (s1.trans s2) _ _ hte
      refine ⟨fun σ' H3 => ∃ z, σ' = [some (.ref a), some (.ref pr), some x, some (.ref te), some z] ∧ Same H1 H3 ∧ IsE cs.ce H3 z ⟨pickE (fun k => decide (k = .latch)) r.e.k, r.e.n, r.e.m⟩, ?_, ?_⟩
      · walk_at "rd"
        refine ⟨te, _, 0, .str r.e.k.kindB, rfl, rfl, SqT.of hte10, eb0 _, rfl, ?_⟩
        rw [kb_set]
        by_cases hk : r.e.k = .latch
        · rw [decide_eq_true hk]
          refine iteT ⟨_, rfl, te, _, 1, .str r.e.n, rfl, rfl, SqT.of hte10, eb1 _, fun x3 dx3 nx nd _ => mk_enC (k := .latch) (m := r.e.m) nx nd rfl o4 fun H3 s3 p3 => ⟨rfl, s2.trans s3, ?_⟩⟩
          rw [hk]
          exact p3
        · rw [decide_eq_false hk]
          refine iteF ⟨s2, ?_⟩
          have e1 : pickE (fun k => decide (k = .latch)) r.e.k = pickE (fun _ => false) r.e.k := by
            cases hkk : r.e.k <;> first | rfl | exact absurd hkk hk
          rw [e1]
          exact p2'
      rintro σ10 H10 ⟨z10, rfl, s10, p10⟩
      have hte11 := (s1.trans s10) _ _ hte
      refine ⟨fun σ' H3 => ∃ z, σ' = [some (.ref a), some (.ref pr), some x, some (.ref te), some z] ∧ Same H1 H3 ∧ IsE cs.ce H3 z ⟨pickE (fun k => decide (k = .latch) || decide (k = .unlatch)) r.e.k, r.e.n, r.e.m⟩, ?_, ?_⟩
      · walk_at "rd"
        refine ⟨te, _, 0, .str r.e.k.kindB, rfl, rfl, SqT.of hte11, eb0 _, rfl, ?_⟩
        rw [kb_reset]
        by_cases hk : r.e.k = .unlatch
        · rw [decide_eq_true hk]
          refine iteT ⟨_, rfl, te, _, 1, .str r.e.n, rfl, rfl, SqT.of hte11, eb1 _, fun x3 dx3 nx nd _ => mk_enC (k := .unlatch) (m := r.e.m) nx nd rfl o4 fun H3 s3 p3 => ⟨rfl, s10.trans s3, ?_⟩⟩
          rw [hk]
          exact p3
        · rw [decide_eq_false hk]
          refine iteF ⟨s10, ?_⟩
          have e1 : pickE (fun k => decide (k = .latch) || decide (k = .unlatch)) r.e.k = pickE (fun k => decide (k = .latch)) r.e.k := by
            cases hkk : r.e.k <;> first | rfl | exact absurd hkk hk
          rw [e1]
          exact p10
      rintro σ11 H11 ⟨z11, rfl, s11, p11⟩
      have hte12 := (s1.trans s11) _ _ hte
      refine ⟨fun σ' H3 => ∃ z, σ' = [some (.ref a), some (.ref pr), some x, some (.ref te), some z] ∧ Same H1 H3 ∧ IsE cs.ce H3 z ⟨pickE (fun k => decide (k = .latch) || decide (k = .unlatch) || decide (k = .timer)) r.e.k, r.e.n, r.e.m⟩, ?_, ?_⟩
      · walk_at "rd"
        refine ⟨te, _, 0, .str r.e.k.kindB, rfl, rfl, SqT.of hte12, eb0 _, rfl, ?_⟩
        rw [kb_timer]
        by_cases hk : r.e.k = .timer
        · rw [decide_eq_true hk]
          refine iteT ⟨_, rfl, te, _, 1, .str r.e.n, rfl, rfl, SqT.of hte12, eb1 _, _, rfl, te, _, 2, .int r.e.m, rfl, rfl, SqT.of hte12, eb2 (by rw [hk]; rfl), fun x3 dx3 nx nd _ => mk_coC (k := .timer) nx nd rfl o4 o5 o6 fun H3 s3 p3 => ⟨rfl, s11.trans s3, ?_⟩⟩
          rw [hk]
          exact p3
        · rw [decide_eq_false hk]
          refine iteF ⟨s11, ?_⟩
          have e1 : pickE (fun k => decide (k = .latch) || decide (k = .unlatch) || decide (k = .timer)) r.e.k = pickE (fun k => decide (k = .latch) || decide (k = .unlatch)) r.e.k := by
            cases hkk : r.e.k <;> first | rfl | exact absurd hkk hk
          rw [e1]
          exact p11
      rintro σ12 H12 ⟨z12, rfl, s12, p12⟩
      have hte13 := (s1.trans s12) _ _ hte
      refine ⟨fun σ' H3 => ∃ z, σ' = [some (.ref a), some (.ref pr), some x, some (.ref te), some z] ∧ Same H1 H3 ∧ IsE cs.ce H3 z ⟨pickE (fun k => decide (k = .latch) || decide (k = .unlatch) || decide (k = .timer) || decide (k = .counter)) r.e.k, r.e.n, r.e.m⟩, ?_, ?_⟩
      · walk_at "rd"
        refine ⟨te, _, 0, .str r.e.k.kindB, rfl, rfl, SqT.of hte13, eb0 _, rfl, ?_⟩
        rw [kb_counter]
        by_cases hk : r.e.k = .counter
        · rw [decide_eq_true hk]
          refine iteT ⟨_, rfl, te, _, 1, .str r.e.n, rfl, rfl, SqT.of hte13, eb1 _, _, rfl, te, _, 2, .int r.e.m, rfl, rfl, SqT.of hte13, eb2 (by rw [hk]; rfl), fun x3 dx3 nx nd _ => mk_coC (k := .counter) nx nd rfl o4 o5 o6 fun H3 s3 p3 => ⟨rfl, s12.trans s3, ?_⟩⟩
          rw [hk]
          exact p3
        · rw [decide_eq_false hk]
          refine iteF ⟨s12, ?_⟩
          have e1 : pickE (fun k => decide (k = .latch) || decide (k = .unlatch) || decide (k = .timer) || decide (k = .counter)) r.e.k = pickE (fun k => decide (k = .latch) || decide (k = .unlatch) || decide (k = .timer)) r.e.k := by
            cases hkk : r.e.k <;> first | rfl | exact absurd hkk hk
          rw [e1]
          exact p12
      rintro σ13 H13 ⟨z13, rfl, s13, p13⟩
      have p4 : IsE cs.ce H13 z13 r.e := by
        have e1 : pickE (fun k => decide (k = .latch) || decide (k = .unlatch) || decide (k = .timer) || decide (k = .counter)) r.e.k = r.e.k := by cases r.e.k <;> rfl
        rw [e1] at p13
        exact p13
      have s4 := s13
      walk_at "rd"
      unfold tBM
      walk_at "rd"
      have hpr4 := s4 _ _ hpr
      refine ⟨.inl ⟨rfl, _, SqL.of hpr4⟩, _, rfl, x, r.c, rfl, hxc.mono (T := fun _ => False) (Same.imm (s1.trans s4)), o1, o2, o3, fun H5 xp s5 pp => ?_⟩
      refine ⟨_, rfl, fun xr dxr nxr ndr _ => mk_rgC nxr ndr fun H6 s6 hxr => ⟨rfl, ?_⟩⟩
      have s16 := (s4.trans s5).trans s6
      have s06 := s1.trans s16
      have hpr6 := s16 _ _ hpr
      refine ⟨pr, _, _, rfl, rfl, hpr6, by rw [sizeLine_eq]; omega, _, _, _, ⟨rfl, rfl, rfl⟩, Same.mut s06 nr, us ++ [V.ref xr], upd_same, ?_⟩
      have im : Imm cs.has H6 (upd H6 pr (.lst (us ++ [.ref xr]))) := Imm.mut hpr6 id
      rw [List.take_succ, hr', Option.toList_some]
      refine ((htw.mono fun _ _ q => (q.mono (Same.imm s16)).mono im).app (.one ?_))
      refine ⟨xr, dxr, .ref xp, z13, rfl, im _ _ hxr (.inr (.inr (.inl rfl))), (pp.mono (Same.imm s6)).mono (im.less fun _ q => .inl q), ?_⟩
      exact (p4.mono (Same.imm (s5.trans s6))).mono (im.less fun _ q => .inr (.inl q))
    · rintro σ H1 ⟨v2, v3, v4, us, rfl, s1, hpr, htw⟩
      rw [hlen, List.take_length] at htw
      walk_at "rd"
      refine ⟨_, rfl, a, _, 0, .ref ti, rfl, rfl, SqT.of (s1 _ _ ha), rfl, _, rfl, a, _, 1, .ref tt, rfl, rfl, SqT.of (s1 _ _ ha), rfl, _, rfl, ?_⟩
      exact fun x2 dx2 nx nd _ => mk_ldC nx nd (.inr (h1.mono (Same.imm0 s1))) (.inr (h2.mono (Same.imm0 s1))) (.inl hpr) htw hfair hnm fun H2 s2 p2 => ⟨rfl, k H2 x2 (s1.trans s2) (s1.free nx) p2⟩
end

/-! ## a drawn row -/
abbrev s__law_row : Stmt := top 64
theorem sc__law_row : FnScope ["_law_cell", "_law_many", "_law_k"] ["_law_cell", "_law_many"] (defScope s__law_row) := ⟨rfl, rfl, rfl, by decide +kernel, rfl, by decide +kernel, by decide +kernel⟩
structure TRow (K : PySem.W.Frag) (mg : Str → Option Value) : Prop where
  cells : TCells K mg
  d_row : DefAt K mg "_law_row" s__law_row ["_law_cell", "_law_many"]
  z_tuple : mg "tuple" = none
  z_range : mg "range" = none
section
variable {P : Program} {w : World} {K : PySem.W.Frag} {mg : Str → Option Value} {base : Heap} {cs : Cs} {cc : Addr} {xc : Xc}
def spRowB : Sp := fun vs H Q _ => ∃ (c : Int) (n : Nat), vs = [.int c, .int n] ∧ n ≤ 1000 ∧ ∀ (H' : Hp) (t : Addr) (bs : List Bool), Same H H' → H' t = some (.tup (bs.map V.bl)) → bs.length = n → Q (.ref t) H'
theorem ok_rowB (T : TRow K mg) : FnAt P w K mg base CX0 "_law_row" 2 ["_law_cell", "_law_many"] spRowB := by
  have G__law_mixed : FnAt P w K mg base CX0 "_law_mixed" 1 _ spMixed := ok_mixed T.cells
  refine fnAt_ok T.d_row sc__law_row (fun vs H Q E h => ?_) (fun f cdv A outer st H vs Q E hr h => ?_)
  · obtain ⟨c, n, rfl, _⟩ := h; rfl
  · obtain ⟨c, n, rfl, hn, k⟩ := h
    refine ⟨_, (pss_one (ps_ret (pe_callTy call_tuple_of (by rfl) T.z_tuple (show PySem.bootBuiltins "tuple" = some (.type "tuple") by decide +kernel) (pa_cons (pe_lc (own := [("_law_k", 2)]) (g := gName 2) (tt := tYes) rfl sc__law_row.nd (pi_range1 rfl T.z_range (pa_cons (pv 1) pa_nil)) (blkOk_by (own := [("_law_k", 2)]) (N := ["_law_cell", "_law_many", "_law_k"]) (sc := defScope s__law_row) (by decide +kernel)) (fun _ _ _ _ _ => pg_name (i := 2) sc__law_row.nd rfl (Or.inl rfl)) (fun _ _ _ _ _ => pts_nil) (fun _ _ _ _ _ => (pe_cmpR op_eq (pe_op op_mod (pe_op op_fdiv (pe_callF G__law_mixed hr pass0 (pa_cons (pv 0) (pa_cons (pe_op op_add pe_int (pv 2)) pa_nil))) pe_int) pe_int) pe_int (nomark _)))) pa_nil)))), ?_⟩
    walk_at "rd"
    refine ⟨_, rfl, _, rfl, by omega, by omega, fun D nD => lc_range (lo := 0) (n := n) (fun i H' => Same H H' ∧ ∃ bs : List Bool, H' D = some (.lst (bs.map V.bl)) ∧ bs.length = i) ⟨Same.new nD, [], upd_same, rfl⟩ ?_ ?_⟩
    · rintro i H1 hi ⟨s1, bs, hD, hbl⟩
      rw [Int.zero_add]
      refine ⟨rfl, ?_⟩
      walk_at "rd"
      refine ⟨_, _, rfl, _, rfl, _, hD, by rw [List.length_map, sizeLine_eq]; omega, Same.mut s1 nD, bs ++ [decide (mixed c (50 + (i : Int)) / 3 % 2 = 1)], ?_, by simp [hbl]⟩
      rw [upd_same, List.map_append]
      rfl
    · rintro H1 ⟨s1, bs, hD, hbl⟩
      exact ⟨D, rfl, _, .inl ⟨SqL.of hD, fun t nt => k _ t bs (s1.trans (Same.new nt)) upd_same hbl⟩⟩
end

/-! ## truths, whole numbers -/
abbrev s__law_truths : Stmt := top 65
theorem sc__law_truths : FnScope ["_law_found", "_law_due", "_law_truth"] ["_law_found", "_law_due"] (defScope s__law_truths) := ⟨rfl, rfl, rfl, by decide +kernel, rfl, by decide +kernel, by decide +kernel⟩
abbrev s__law_whole : Stmt := top 50
theorem sc__law_whole : FnScope ["_law_found"] ["_law_found"] (defScope s__law_whole) := ⟨rfl, rfl, rfl, by decide +kernel, rfl, by decide +kernel, by decide +kernel⟩
structure TTr (K : PySem.W.Frag) (mg : Str → Option Value) : Prop where
  d_truths : DefAt K mg "_law_truths" s__law_truths ["_law_found", "_law_due"]
  d_whole : DefAt K mg "_law_whole" s__law_whole ["_law_found"]
  z_tuple : mg "tuple" = none
  z_isinstance : mg "isinstance" = none
  z_int : mg "int" = none
  z_bool : mg "bool" = none
section
variable {P : Program} {w : World} {K : PySem.W.Frag} {mg : Str → Option Value} {base : Heap} {cs : Cs} {cc : Addr} {xc : Xc}
def spTruthsB (K : PySem.W.Frag) : Sp := fun vs H Q _ => ∃ (a b : Addr) (bs : List Bool), vs = [.ref a, .ref b] ∧ H a = some (.tup (bs.map V.bl)) ∧ SqT K H b (bs.map V.bl) ∧ Q (.bl true) H
theorem ok_truthsB (T : TTr K mg) : FnAt P w K mg base CX0 "_law_truths" 1 ["_law_found", "_law_due"] (spTruthsB K) := by
  refine fnAt_ok T.d_truths sc__law_truths (fun vs H Q E h => ?_) (fun f cdv A outer st H vs Q E hr h => ?_)
  · obtain ⟨a, b, bs, rfl, _⟩ := h; rfl
  · obtain ⟨a, b, bs, rfl, ha, hb, k⟩ := h
    have hu := hu_of hr
    refine ⟨_, (pss_cons (ps_if (pt_not (pt_val (pe_callB call_isTup (by rfl) T.z_isinstance (by decide +kernel) (pa_cons (pv 0) (pa_cons (pe_bltn (v := .ty "tuple") (by rfl) T.z_tuple (by decide +kernel) rfl) pa_nil))))) (pss_one (ps_ret pe_bl)) pss_nil)
        (pss_cons (ps_for PassesOwn.never rfl (pi_tup (pv 0)) (pg_name (i := 2) sc__law_truths.nd rfl (by first | exact Or.inl rfl | exact Or.inr rfl)) (pss_one (ps_if (pt_not (pt_val (pe_callB call_isBool (by rfl) T.z_isinstance (by decide +kernel) (pa_cons (pv 2) (pa_cons (pe_bltn (v := .ty "bool") (by rfl) T.z_bool (by decide +kernel) rfl) pa_nil))))) (pss_one (ps_ret pe_bl)) pss_nil)))
        (pss_one (ps_ret (pe_cmpR (op_eqD hr.units) (pv 0) (pv 1) (nomark _)))))), ?_⟩
    walk_at "rd"
    refine ⟨a, _, rfl, ha, true, rfl, ?_⟩
    refine iteF ⟨_, rfl, a, rfl, ⟨_, SqT.of ha⟩, for_tup (K := K) (a := a) (xs := bs.map V.bl) (fun i σ H' => ∃ v, σ = [some (.ref a), some (.ref b), v] ∧ H' = H) ⟨none, rfl, rfl⟩ (fun i σ H' _ ⟨_, _, e⟩ => e ▸ SqT.of ha) ?_ ?_⟩
    · rintro i y σ H' hy ⟨v, rfl, rfl⟩
      rw [List.getElem?_map] at hy
      obtain ⟨z, _, rfl⟩ := Option.map_eq_some_iff.mp hy
      walk_at "rd"
      exact ⟨_, rfl⟩
    · rintro σ H' ⟨v, rfl, rfl⟩
      walk_at "rd"
      refine ⟨_, _, .tup (SqT.of ha) (bools_dp _), .tup hb (bools_dp _), bools_shaped, bools_shaped, ?_⟩
      rw [bools_eqv]
      exact k
def spWholeB : Sp := fun vs H Q _ => ∃ i : Int, vs = [.int i] ∧ Q (.bl true) H
theorem ok_wholeB (T : TTr K mg) : FnAt P w K mg base CX0 "_law_whole" 1 ["_law_found"] spWholeB := by
  refine fnAt_ok T.d_whole sc__law_whole (fun vs H Q E h => ?_) (fun f cdv A outer st H vs Q E hr h => ?_)
  · obtain ⟨i, rfl, _⟩ := h; rfl
  · obtain ⟨i, rfl, k⟩ := h
    refine ⟨_, (pss_one (ps_ret (pe_and (pe_callB call_isInt (by rfl) T.z_isinstance (by decide +kernel) (pa_cons (pv 0) (pa_cons (pe_bltn (v := .ty "int") (by rfl) T.z_int (by decide +kernel) rfl) pa_nil))) (pe_one (pe_not (pe_callB call_isBool (by rfl) T.z_isinstance (by decide +kernel) (pa_cons (pv 0) (pa_cons (pe_bltn (v := .ty "bool") (by rfl) T.z_bool (by decide +kernel) rfl) pa_nil)))))))), ?_⟩
    walk_at "rd"
    exact k
end

--%% N17
/-! ### as told: the works beside the law's state -/
abbrev s__law_no_count : Stmt := top 66
theorem sc__law_no_count : FnScope ["_law_works", "_law_name"] ["_law_works", "_law_name"] (defScope s__law_no_count) := ⟨rfl, rfl, rfl, by decide +kernel, rfl, by decide +kernel, by decide +kernel⟩
abbrev s__law_as_told : Stmt := top 67
theorem sc__law_as_told : FnScope ["_law_works", "_law_drawn_here", "_law_state", "_law_name", "_law_truth", "_law_found"] ["_law_works", "_law_drawn_here", "_law_state"] (defScope s__law_as_told) := ⟨rfl, rfl, rfl, by decide +kernel, rfl, by decide +kernel, by decide +kernel⟩
structure TTld (K : PySem.W.Frag) (mg : Str → Option Value) (cs : Cs) (cc : Addr) (xc : Xc) (cw : Addr) : Prop where
  ask : TAsk K mg cs cc xc cw
  ask2 : TAsk2 K mg cs cc xc cw
  tr : TTr K mg
  d_no_count : DefAt K mg "_law_no_count" s__law_no_count ["_law_works", "_law_name"]
  d_as_told : DefAt K mg "_law_as_told" s__law_as_told ["_law_works", "_law_drawn_here", "_law_state"]
  z_list : mg "list" = none
  z_tuple : mg "tuple" = none
  z_isinstance : mg "isinstance" = none
  z_bool : mg "bool" = none
def itemD (p : Str × Bool) : PyData := .tuple [.str p.1, .bool p.2]
theorem strOk_name {n : Str} (h : isName n = true) : PyData.strOk n = true := by
  unfold isName isWord at h
  simp only [Bool.and_eq_true, List.all_eq_true] at h
  unfold PyData.strOk
  rw [Array.all_eq_true_iff_forall_mem]
  intro x hx
  have := h.1.1.1 x (by simpa using hx)
  unfold isLow at this
  have := of_decide_eq_true this
  exact decide_eq_true (by omega)
theorem items_lay : ∀ {l : List (Str × Bool)}, (∀ n ∈ keysL l, isName n = true) → PyData.canLayAll0 (l.map itemD) = true
  | [], _ => rfl
  | n :: l, h => by
    have h1 := items_lay fun m hm => h m (List.mem_cons_of_mem _ hm)
    have h2 := strOk_name (h n.1 List.mem_cons_self)
    rw [List.map_cons, PyData.canLayAll0, h1]
    simp [itemD, PyData.canLay0, PyData.canLayAll0, h2]
theorem items_flat : ∀ l : List (Str × Bool), PyData.depthAll (l.map itemD) ≤ 1
  | [] => by simp [PyData.depthAll]
  | n :: l => by
    rw [List.map_cons, PyData.depthAll]
    have := items_flat l
    have e : PyData.depth (itemD n) = 1 := rfl
    rw [e]
    omega
theorem items_shaped {l : List (Str × Bool)} (h : ∀ n ∈ keysL l, isName n = true) : SeqAt.shaped (.list (l.map itemD)) = true := shaped_of (items_lay h) (by
  rw [PyData.depth]
  have := items_flat l
  omega)
theorem items_eqv {l : List (Str × Bool)} (h : ∀ n ∈ keysL l, isName n = true) : PyData.eqv (.list (l.map itemD)) (.list (l.map itemD)) = true := SeqAt.eqv_refl _ (items_lay h)
theorem items_dp {K : PySem.W.Frag} {H : Hp} : ∀ {ts : List Addr} {l : List (Str × Bool)}, Paired (fun (t : Addr) (q : Key × V) => H t = some (.tup [kV q.1, q.2])) ts (dL V.bl l) → DpAll K H (ts.map V.ref) (l.map itemD)
  | [], [], _ => .nil
  | t :: ts, p :: l, h => by
    cases h with
    | cons h1 h2 => exact .cons (.tup (SqT.of h1) (.cons (.str p.1) (.cons (.bl p.2) .nil))) (items_dp h2)
  | [], _ :: _, h => nomatch h
  | _ :: _, [], h => nomatch h
section
variable {P : Program} {w : World} {K : PySem.W.Frag} {mg : Str → Option Value} {base : Heap} {cs : Cs} {cc : Addr} {xc : Xc} {cw : Addr}
def spNoCount (cw : Addr) : Sp := fun vs H Q _ => ∃ (x dx b c s : Addr) (lv : V) (u : Ws) (n : Str), vs = [.ref x, .str n] ∧ H x = some (.ins cw dx (wkF lv b c s)) ∧ Tri H b c s u ∧ n ∉ keysL u.cnt ∧ Q (.bl true) H
theorem ok_no_count (T : TTld K mg cs cc xc cw) : FnAt P w K mg base CX0 "_law_no_count" 2 ["_law_works", "_law_name"] (spNoCount cw) := by
  have GX_count := disp_count (P := P) (w := w) (base := base) T.ask
  have e_NoName := T.ask.wk.lad.exs.e_name
  refine fnAt_ok T.d_no_count sc__law_no_count (fun vs H Q E h => ?_) (fun f cdv A outer st H vs Q E hr h => ?_)
  · obtain ⟨x, dx, b, c, s, lv, u, n, rfl, _⟩ := h; rfl
  · obtain ⟨x, dx, b, c, s, lv, u, n, rfl, hx, ht, hn, k⟩ := h
    refine ⟨_, (pss_cons (ps_try_only rfl rfl ⟨rfl, by decide, .inl e_NoName.gP⟩ takesN (fun W pn xe tk _ => (pss_one (ps_expr (pe_methT GX_count hr tk (pv 0) (pa_cons (pv 1) pa_nil))))) (fun a oe cls d pn _ _ => (pss_one (ps_ret pe_bl))))
        (pss_one (ps_ret pe_bl))), ?_⟩
    walk_at "rd"
    refine ⟨_, rfl, x, cw, dx, _, rfl, hx, rfl, lkWn (by decide +kernel), _, rfl, x, dx, b, c, s, lv, u, n, rfl, hx, ht, fun v hv => absurd (getL_mem.mp ⟨v, hv⟩) hn, fun _ => ⟨true, e_NoName.self, fun _ a ha => k, fun q => nomatch q⟩⟩
def spAsTold (K : PySem.W.Frag) (cs : Cs) (cw : Addr) : Sp := fun vs H Q _ => ∃ (x dx bW cW sW bS cS sS : Addr) (lv dv sv : V) (u : Ws) (l : Lad), vs = [.ref x, dv, sv] ∧ H x = some (.ins cw dx (wkF lv bW cW sW)) ∧ IsL K cs H lv l ∧ Tri H bW cW sW u ∧ IsDr K H dv l ∧ IsSt H sv bS cS sS u ∧ Fits l u ∧ l.fair = true ∧ (∀ n ∈ l.ins ++ writ l.rs, isName n = true) ∧
  Ap3 bW cW sW bS cS sS ∧ ∀ H', Same H H' → Q (.bl true) H'
theorem ok_as_told (T : TTld K mg cs cc xc cw) : FnAt P w K mg base CX0 "_law_as_told" 4 ["_law_works", "_law_drawn_here", "_law_state"] (spAsTold K cs cw) := by
  have G_count := (disp_count (P := P) (w := w) (base := base) T.ask).calm
  have G_bit := (disp_bit (P := P) (w := w) (base := base) T.ask).calm
  have G_image := disp_image (P := P) (w := w) (base := base) T.ask2
  have G_answers := disp_answers (P := P) (w := w) (base := base) T.ask2
  have G__law_no_count := ok_no_count (P := P) (w := w) (base := base) T
  have G__law_whole : FnAt P w K mg base CX0 "_law_whole" 1 _ spWholeB := ok_wholeB T.tr
  have G__law_truths : FnAt P w K mg base CX0 "_law_truths" 1 _ (spTruthsB K) := ok_truthsB T.tr
  refine fnAt_ok T.d_as_told sc__law_as_told (fun vs H Q E h => ?_) (fun f cdv A outer st H vs Q E hr h => ?_)
  · obtain ⟨x, dx, bW, cW, sW, bS, cS, sS, lv, dv, sv, u, l, rfl, _⟩ := h; rfl
  · obtain ⟨x, dx, bW, cW, sW, bS, cS, sS, lv, dv, sv, u, l, rfl, hx, hl, tW, hd, hst, hfit, hfair, hnm, ap, k⟩ := h
    have hu := hu_of hr
    obtain ⟨tS, rfl, htS, tri⟩ := id hst
    obtain ⟨a, ti, tt, p, ws, rfl, ha, h1, h2, h3, h4⟩ := id hd
    obtain ⟨f1, f2, f3, f4, f5, f6, f7, f8, f9⟩ := (fair_iff l).mp hfair
    have nd : (keysL u.bits).Nodup := by
      rw [hfit.kb, List.nodup_append]
      exact ⟨f2, writ_nodup _, fun a ha b hb e => f6 a ha (by rw [e]; exact hb)⟩
    refine ⟨_, (pss_cons (ps_if (pt_cmpR (op_neD hr.units) (LiI.pe_listItems rfl (pe_methD0 G_image hr pass0 (pv 0)) (by rfl) T.z_list (by decide +kernel)) (LiI.pe_listItems rfl (pe_ix ix_tup (pv 2) pe_int (fun _ _ => rfl)) (by rfl) T.z_list (by decide +kernel)) (nomark _)) (pss_one (ps_ret pe_bl)) pss_nil)
        (pss_cons (ps_lock (ps_for PassesOwn.never rfl (pi_keys (pe_ix ix_tup (pv 2) pe_int (fun _ _ => rfl))) (pg_name (i := 3) sc__law_as_told.nd rfl (by first | exact Or.inl rfl | exact Or.inr rfl)) (pss_cons (ps_set (i := 4) sc__law_as_told.nd rfl (by first | exact Or.inl rfl | exact Or.inr rfl) (pe_methD G_bit hr pass0 (pv 0) (pa_cons (pv 3) pa_nil)))
          (pss_one (ps_if (PW.pt (pw_or (pt_not (pt_val (pe_callB call_isBool (by rfl) T.z_isinstance (by decide +kernel) (pa_cons (pv 4) (pa_cons (pe_bltn (v := .ty "bool") (by rfl) T.z_bool (by decide +kernel) rfl) pa_nil))))) (pw_or1 (pt_cmpR op_ne (pv 4) (pe_dget (by exact hu) (pe_ix ix_tup (pv 2) pe_int (fun _ _ => rfl)) (pv 3) (fun _ _ => rfl)) (nomark _))))) (pss_one (ps_ret pe_bl)) pss_nil)))))
        (pss_cons (ps_lock (ps_for PassesOwn.never rfl (pi_keys (pe_ix ix_tup (pv 2) pe_int (fun _ _ => rfl))) (pg_name (i := 3) sc__law_as_told.nd rfl (by first | exact Or.inl rfl | exact Or.inr rfl)) (pss_cons (ps_set (i := 5) sc__law_as_told.nd rfl (by first | exact Or.inl rfl | exact Or.inr rfl) (pe_methD G_count hr pass0 (pv 0) (pa_cons (pv 3) pa_nil)))
          (pss_one (ps_if (PW.pt (pw_or (pt_not (pt_val (pe_callF G__law_whole hr pass0 (pa_cons (pv 5) pa_nil)))) (pw_or1 (pt_cmpR op_ne (pv 5) (pe_dget (by exact hu) (pe_ix ix_tup (pv 2) pe_int (fun _ _ => rfl)) (pv 3) (fun _ _ => rfl)) (nomark _))))) (pss_one (ps_ret pe_bl)) pss_nil)))))
        (pss_cons (ps_lock (ps_for PassesOwn.never rfl (pi_keys (pe_ix ix_tup (pv 2) pe_int (fun _ _ => rfl))) (pg_name (i := 3) sc__law_as_told.nd rfl (by first | exact Or.inl rfl | exact Or.inr rfl)) (pss_one (ps_if (PW.pt (pw_and (pt_cmp (pc_dnotin hu (pv 3) (pe_ix ix_tup (pv 2) pe_int (fun _ _ => rfl)))) (pw_and1 (pt_not (pt_val (pe_callF G__law_no_count hr pass0 (pa_cons (pv 0) (pa_cons (pv 3) pa_nil)))))))) (pss_one (ps_ret pe_bl)) pss_nil))))
        (pss_one (ps_ret (pe_callF G__law_truths hr pass0 (pa_cons (pe_methD0 G_answers hr pass0 (pv 0)) (pa_cons (pe_callTy call_tuple_of (by rfl) T.z_tuple (show PySem.bootBuiltins "tuple" = some (.type "tuple") by decide +kernel) (pa_cons (pe_lc (own := [("_law_name", 3)]) (g := gName 3) (tt := tYes) rfl sc__law_as_told.nd (pi_tup (pe_ix ix_tup (pv 1) pe_int (fun _ _ => rfl))) (blkOk_by (own := [("_law_name", 3)]) (N := ["_law_works", "_law_drawn_here", "_law_state", "_law_name", "_law_truth", "_law_found"]) (sc := defScope s__law_as_told) (by decide +kernel)) (fun _ _ _ _ _ => pg_name (i := 3) sc__law_as_told.nd rfl (Or.inl rfl)) (fun _ _ _ _ _ => pts_nil) (fun _ _ _ _ _ => (pe_dget (by exact hu) (pe_ix (ix_tupK K rfl) (pv 2) pe_int (fun _ _ => rfl)) (pv 3) (fun _ _ => rfl)))) pa_nil)) pa_nil))))))))), ?_⟩
    walk_at "rd"
    have hnk : ∀ n ∈ keysL u.bits, isName n = true := by rw [hfit.kb]; exact hnm
    refine ⟨_, rfl, x, cw, dx, _, rfl, hx, rfl, lkWn (by decide +kernel), x, dx, bW, cW, sW, lv, u, rfl, hx, tW, fun H1 d1 s1 _ hd1 => ?_⟩
    refine ⟨d1, _, rfl, hd1, fun H2 p2 ts s2 _ _ _ hp2 hts => ?_⟩
    refine ⟨_, rfl, tS, _, 0, .ref bS, rfl, rfl, SqT.of (s2 _ _ (s1 _ _ htS)), rfl, bS, _, rfl, s2 _ _ (s1 _ _ tri.hb), fun H3 p3 us s3 _ _ _ hp3 hus => ?_⟩
    have s23 : Same H2 H3 := s3
    refine ⟨_, _, .lst (SqL.of (s23 _ _ hp2)) (items_dp (hts.mono fun _ _ q => s23 _ _ q)), .lst (SqL.of hp3) (items_dp hus), items_shaped hnk, items_shaped hnk, ?_⟩
    rw [items_eqv hnk]
    refine ⟨false, rfl, iteF ?_⟩
    have s03 : Same H H3 := (s1.trans s2).trans s23
    have tri3 := tri.keep s03
    -- the bits
    refine ⟨bS, _, tri3.hb, trivial, fun od => ?_⟩
    have tW3 : Tri (upd H3 bS (.frz od (.dK (dL V.bl u.bits)))) bW cW sW u := (tW.keep s03).lock ⟨ap.1.1, ap.2.1.1, ap.2.2.1⟩
    have hx3 : upd H3 bS (.frz od (.dK (dL V.bl u.bits))) x = some (.ins cw dx (wkF lv bW cW sW)) := lock_at (fun e => by have q := s03 _ _ hx; rw [e, tri3.hb] at q; cases q) (s03 _ _ hx)
    have ht3 : upd H3 bS (.frz od (.dK (dL V.bl u.bits))) tS = some (.tup [.ref bS, .ref cS, .ref sS]) := lock_at (fun e => by have q := s03 _ _ htS; rw [e, tri3.hb] at q; cases q) (s03 _ _ htS)
    have hf3 : upd H3 bS (.frz od (.dK (dL V.bl u.bits))) bS = some (.frz od (.dK (dL V.bl u.bits))) := upd_same
    have off3 : ∀ H', Same (upd H3 bS (.frz od (.dK (dL V.bl u.bits)))) H' → Same H3 (upd H' bS (.dK (dL V.bl u.bits))) := fun H' q => lock_same tri3.hb q
    generalize upd H3 bS (.frz od (.dK (dL V.bl u.bits))) = Hf at tW3 hx3 ht3 hf3 off3 ⊢
    refine ⟨_, rfl, tS, _, 0, .ref bS, rfl, rfl, SqT.of ht3, rfl, bS, od, rfl, .inl ⟨_, hf3, for_it walk_keys (fun i σ H' => ∃ v3 v4 : Option V, σ = [some (.ref x), some (.ref a), some (.ref tS), v3, v4, none] ∧ H' = Hf) ⟨_, _, rfl, rfl⟩ (fun i σ H' _ ⟨_, _, _, e⟩ => e ▸ hf3) ?_ ?_⟩⟩
    · rintro i y σ H' _ hi ⟨v3, v4, rfl, rfl⟩ ⟨rfl, kk, vv, hkv, rfl⟩
      unfold dL at hkv
      rw [List.getElem?_map] at hkv
      obtain ⟨⟨n, b⟩, hnb, e⟩ := Option.map_eq_some_iff.mp hkv
      cases e
      have hin : n ∈ keysL u.bits := List.mem_map.mpr ⟨_, List.mem_of_getElem? hnb, rfl⟩
      obtain ⟨vb, hvb⟩ := getL_mem.mpr hin
      walk_at "rd"
      refine ⟨_, rfl, x, cw, dx, _, rfl, hx3, rfl, lkWn (by decide +kernel), _, rfl, x, dx, bW, cW, sW, lv, u, n, rfl, hx3, tW3, fun v' hv' => ?_, fun h => absurd hin h⟩
      obtain rfl := Option.some.inj (hvb.symm.trans hv')
      refine ⟨rfl, iteF ⟨_, rfl, tS, _, 0, .ref bS, rfl, rfl, SqT.of ht3, atI_int (by decide) rfl, _, rfl, bS, .bl vb, rfl, .inl ⟨_, .inr n, .inr ⟨od, hf3⟩, rfl, by rw [dL_get, hvb]; rfl⟩, rfl, ?_⟩⟩
      rw [decide_eq_true rfl]
      exact iteF ⟨_, _, ⟨rfl, rfl⟩, rfl⟩
    rintro σ H' ⟨v3, v4, rfl, rfl⟩
    refine ⟨hf3, ?_⟩
    have s4 := off3 H' (Same.refl _)
    show tSeq _ _ _ _ (upd H' bS (.dK (dL V.bl u.bits)))
    clear tW3 hx3 ht3 hf3 off3
    generalize upd H' bS (.dK (dL V.bl u.bits)) = H4 at s4 ⊢
    have s04 := s03.trans s4
    -- the counts
    have tri4 := tri.keep s04
    refine ⟨cS, _, tri4.hc, trivial, fun od => ?_⟩
    have tW3 : Tri (upd H4 cS (.frz od (.dK (dL V.int u.cnt)))) bW cW sW u := (tW.keep s04).lock ⟨ap.1.2.1, ap.2.1.2.1, ap.2.2.2.1⟩
    have hx3 : upd H4 cS (.frz od (.dK (dL V.int u.cnt))) x = some (.ins cw dx (wkF lv bW cW sW)) := lock_at (fun e => by have q := s04 _ _ hx; rw [e, tri4.hc] at q; cases q) (s04 _ _ hx)
    have ht3 : upd H4 cS (.frz od (.dK (dL V.int u.cnt))) tS = some (.tup [.ref bS, .ref cS, .ref sS]) := lock_at (fun e => by have q := s04 _ _ htS; rw [e, tri4.hc] at q; cases q) (s04 _ _ htS)
    have hf3 : upd H4 cS (.frz od (.dK (dL V.int u.cnt))) cS = some (.frz od (.dK (dL V.int u.cnt))) := upd_same
    have off3 : ∀ H', Same (upd H4 cS (.frz od (.dK (dL V.int u.cnt)))) H' → Same H4 (upd H' cS (.dK (dL V.int u.cnt))) := fun H' q => lock_same tri4.hc q
    generalize upd H4 cS (.frz od (.dK (dL V.int u.cnt))) = Hf at tW3 hx3 ht3 hf3 off3 ⊢
    refine ⟨_, rfl, tS, _, 1, .ref cS, rfl, rfl, SqT.of ht3, rfl, cS, od, rfl, .inl ⟨_, hf3, for_it walk_keys (fun i σ H' => ∃ v3 v5 : Option V, σ = [some (.ref x), some (.ref a), some (.ref tS), v3, v4, v5] ∧ H' = Hf) ⟨_, _, rfl, rfl⟩ (fun i σ H' _ ⟨_, _, _, e⟩ => e ▸ hf3) ?_ ?_⟩⟩
    · rintro i y σ H' _ hi ⟨v3, v5, rfl, rfl⟩ ⟨rfl, kk, vv, hkv, rfl⟩
      unfold dL at hkv
      rw [List.getElem?_map] at hkv
      obtain ⟨⟨n, b⟩, hnb, e⟩ := Option.map_eq_some_iff.mp hkv
      cases e
      have hin : n ∈ keysL u.cnt := List.mem_map.mpr ⟨_, List.mem_of_getElem? hnb, rfl⟩
      obtain ⟨vb, hvb⟩ := getL_mem.mpr hin
      walk_at "rd"
      refine ⟨_, rfl, x, cw, dx, _, rfl, hx3, rfl, lkWn (by decide +kernel), _, rfl, x, dx, bW, cW, sW, lv, u, n, rfl, hx3, tW3, fun v' hv' => ?_, fun h => absurd hin h⟩
      obtain rfl := Option.some.inj (hvb.symm.trans hv')
      refine ⟨vb, rfl, true, rfl, iteF ⟨_, rfl, tS, _, 1, .ref cS, rfl, rfl, SqT.of ht3, atI_int (by decide) rfl, _, rfl, cS, .int vb, rfl, .inl ⟨_, .inr n, .inr ⟨od, hf3⟩, rfl, by rw [dL_get, hvb]; rfl⟩, rfl, ?_⟩⟩
      rw [decide_eq_true rfl]
      exact iteF ⟨_, _, ⟨rfl, rfl⟩, rfl⟩
    rintro σ H' ⟨v3, v5, rfl, rfl⟩
    refine ⟨hf3, ?_⟩
    have s5 := off3 H' (Same.refl _)
    show tSeq _ _ _ _ (upd H' cS (.dK (dL V.int u.cnt)))
    clear tW3 hx3 ht3 hf3 off3
    generalize upd H' cS (.dK (dL V.int u.cnt)) = H5 at s5 ⊢
    have s05 := s04.trans s5
    -- no count of other names
    have tri5 := tri.keep s05
    refine ⟨bS, _, tri5.hb, trivial, fun od => ?_⟩
    have tW3 : Tri (upd H5 bS (.frz od (.dK (dL V.bl u.bits)))) bW cW sW u := (tW.keep s05).lock ⟨ap.1.1, ap.2.1.1, ap.2.2.1⟩
    have hx3 : upd H5 bS (.frz od (.dK (dL V.bl u.bits))) x = some (.ins cw dx (wkF lv bW cW sW)) := lock_at (fun e => by have q := s05 _ _ hx; rw [e, tri5.hb] at q; cases q) (s05 _ _ hx)
    have ht3 : upd H5 bS (.frz od (.dK (dL V.bl u.bits))) tS = some (.tup [.ref bS, .ref cS, .ref sS]) := lock_at (fun e => by have q := s05 _ _ htS; rw [e, tri5.hb] at q; cases q) (s05 _ _ htS)
    have hf3 : upd H5 bS (.frz od (.dK (dL V.bl u.bits))) bS = some (.frz od (.dK (dL V.bl u.bits))) := upd_same
    have hc3 : upd H5 bS (.frz od (.dK (dL V.bl u.bits))) cS = some (.dK (dL V.int u.cnt)) := lock_at tri.bc.symm tri5.hc
    have off3 : ∀ H', Same (upd H5 bS (.frz od (.dK (dL V.bl u.bits)))) H' → Same H5 (upd H' bS (.dK (dL V.bl u.bits))) := fun H' q => lock_same tri5.hb q
    generalize upd H5 bS (.frz od (.dK (dL V.bl u.bits))) = Hf at tW3 hx3 ht3 hf3 hc3 off3 ⊢
    refine ⟨_, rfl, tS, _, 0, .ref bS, rfl, rfl, SqT.of ht3, rfl, bS, od, rfl, .inl ⟨_, hf3, for_it walk_keys (fun i σ H' => ∃ v3 : Option V, σ = [some (.ref x), some (.ref a), some (.ref tS), v3, v4, v5] ∧ H' = Hf) ⟨_, rfl, rfl⟩ (fun i σ H' _ ⟨_, _, e⟩ => e ▸ hf3) ?_ ?_⟩⟩
    · rintro i y σ H' _ hi ⟨v3, rfl, rfl⟩ ⟨rfl, kk, vv, hkv, rfl⟩
      unfold dL at hkv
      rw [List.getElem?_map] at hkv
      obtain ⟨⟨n, b⟩, hnb, e⟩ := Option.map_eq_some_iff.mp hkv
      cases e
      walk_at "rd"
      refine ⟨_, rfl, _, rfl, tS, _, 1, .ref cS, rfl, rfl, SqT.of ht3, atI_int (by decide) rfl, cS, valV (dL V.int u.cnt) (.inr n : Key), rfl, .inl ⟨_, .inr n, .inl hc3, rfl, rfl⟩, ?_⟩
      rw [dL_get]
      by_cases h : n ∈ keysL u.cnt
      · obtain ⟨v, hv⟩ := getL_mem.mpr h
        rw [hv]
        exact ⟨false, rfl, iteF rfl⟩
      · rw [getL_none.mpr h]
        refine ⟨true, rfl, iteT ⟨x, dx, bW, cW, sW, lv, u, n, rfl, hx3, tW3, h, ?_⟩⟩
        exact ⟨true, rfl, iteF rfl⟩
    rintro σ H' ⟨v3, rfl, rfl⟩
    refine ⟨hf3, ?_⟩
    have s6 := off3 H' (Same.refl _)
    dsimp only
    clear tW3 hx3 ht3 hf3 off3
    generalize upd H' bS (.dK (dL V.bl u.bits)) = H6 at s6 ⊢
    have s06 := s05.trans s6
    walk_at "rd"
    refine ⟨_, rfl, x, cw, dx, _, rfl, s06 _ _ hx, rfl, lkWn (by decide +kernel), x, dx, bW, cW, sW, lv, u, l, rfl, s06 _ _ hx, hl.mono (Same.imm s06), tW.keep s06, fun n hn => ?_, by omega, fun H7 t s7 nt ht7 => ?_⟩
    · rw [hfit.kb]
      exact List.mem_append_right _ (f7 n hn)
    have s07 := s06.trans s7
    have tri7 := tri.keep s07
    refine ⟨_, rfl, a, _, 1, .ref tt, rfl, rfl, SqT.of (s07 _ _ ha), rfl, tt, rfl, ⟨_, (h2.mono (T := fun _ => False) (Same.imm s07)).seq⟩, fun D nD => lc_tup (K := K) (a := tt) (xs := l.outs.map V.str) (fun i H' => Same H7 H' ∧ H' D = some (.lst (((l.outs.map fun n => (getL u.bits n).getD false).map V.bl).take i))) ⟨Same.new nD, upd_same⟩ (fun i H' _ q => Same.seqT q.1 (h2.mono (T := fun _ => False) (Same.imm s07)).seq) ?_ ?_⟩
    · rintro i y H8 hy ⟨q1, q2⟩
      rw [List.getElem?_map] at hy
      obtain ⟨n, hn, rfl⟩ := Option.map_eq_some_iff.mp hy
      obtain ⟨v, hv⟩ := getL_mem.mpr (show n ∈ keysL u.bits by rw [hfit.kb]; exact List.mem_append_right _ (f7 n (List.mem_of_getElem? hn)))
      refine ⟨rfl, _, rfl, tS, _, 0, .ref bS, rfl, rfl, SqT.of (q1 _ _ (s07 _ _ htS)), atI_int (by decide) rfl, _, rfl, bS, .bl v, rfl, .inl ⟨_, .inr n, .inl (q1 _ _ tri7.hb), rfl, by rw [dL_get, hv]; rfl⟩, ?_⟩
      exact lc_push q1 nD q2 (by rw [List.getElem?_map, List.getElem?_map, hn]; simp [hv]) (by rw [List.length_map, List.length_map]; omega)
    · rintro H8 ⟨q1, q2⟩
      rw [List.length_map, List.take_of_length_le (by simp)] at q2
      refine ⟨D, rfl, _, .inl ⟨SqL.of q2, fun t2 nt2 => ?_⟩⟩
      have s8 := Same.new (o := .tup ((l.outs.map fun n => (getL u.bits n).getD false).map V.bl)) nt2
      exact ⟨t, t2, _, rfl, s8 _ _ (q1 _ _ ht7), SqT.of upd_same, k _ (s07.trans (q1.trans s8))⟩
end
--%% N18
/-! ## works: kept, put back -/
abbrev s_Works_kept : Stmt := inClass (top 25) 8
theorem sc_Works_kept : FnScope ["self", "bits", "name"] ["self"] (defScope s_Works_kept) := ⟨rfl, rfl, rfl, by decide +kernel, rfl, by decide +kernel, by decide +kernel⟩
abbrev s_Works_put_back : Stmt := inClass (top 25) 9
theorem sc_Works_put_back : FnScope ["self", "kept", "name"] ["self", "kept"] (defScope s_Works_put_back) := ⟨rfl, rfl, rfl, by decide +kernel, rfl, by decide +kernel, by decide +kernel⟩
structure TKept (K : PySem.W.Frag) (mg : Str → Option Value) (cs : Cs) (cc : Addr) (xc : Xc) (cw : Addr) : Prop where
  wk : TWorks K mg cs cc xc cw
  m_kept : MethAt K cw "kept" "Works.kept" s_Works_kept ["self"]
  m_put_back : MethAt K cw "put_back" "Works.put_back" s_Works_put_back ["self", "kept"]
  z_dict : mg "dict" = none
def wbits (l : Lad) (u : Ws) : List (Str × Bool) := (writ l.rs).map fun n => (n, u.bitOf n)
theorem wbits_keys (l : Lad) (u : Ws) : keysL (wbits l u) = writ l.rs := by simp [keysL, wbits, Function.comp_def]
/-- what is kept of works -/
def keptW (l : Lad) (u : Ws) : Ws := ⟨wbits l u, u.cnt, u.seen⟩
/-- works put back to what was kept -/
def backW (l : Lad) (k : Ws) : Ws := ⟨(l.ins.map fun n => (n, false)) ++ k.bits, k.cnt, k.seen⟩
structure KFits (l : Lad) (k : Ws) : Prop where
  kb : keysL k.bits = writ l.rs
  kc : keysL k.cnt = keysL (cnt0 l.rs)
  ks : keysL k.seen = keysL (seen0 l.rs)
theorem keptW_fits {l : Lad} {u : Ws} (f : Fits l u) : KFits l (keptW l u) := ⟨wbits_keys l u, f.kc, f.ks⟩
theorem backW_fits {l : Lad} {k : Ws} (f : KFits l k) : Fits l (backW l k) := ⟨by
  show keysL ((l.ins.map fun n => (n, false)) ++ k.bits) = _
  rw [keysL, List.map_append, show k.bits.map (·.1) = writ l.rs from f.kb]
  simp [Function.comp_def], f.kc, f.ks⟩
theorem map_take_snocB {ns : List Str} {i : Nat} {n : Str} {g : Str → Bool} (h : ns[i]? = some n) (hn : ns.Nodup) : putL ((ns.take i).map fun n => (n, g n)) n (g n) = (ns.take (i + 1)).map fun n => (n, g n) := by
  rw [keys_new, List.take_succ, h, List.map_append]
  · rfl
  · intro hm
    have hk : n ∈ ns.take i := by
      obtain ⟨p, hp, e⟩ := List.mem_map.mp hm
      obtain ⟨q, hq, rfl⟩ := List.mem_map.mp hp
      rw [← e]
      exact hq
    have hsp : ns.take i ++ ns.drop i = ns := List.take_append_drop i ns
    obtain ⟨hi, hg⟩ := List.getElem?_eq_some_iff.mp h
    rw [← hsp, List.nodup_append] at hn
    exact hn.2.2 n hk n (by rw [List.drop_eq_getElem_cons hi, hg]; exact List.mem_cons_self) rfl
theorem cnt0_nodup (rs : List Rg) : (keysL (cnt0 rs)).Nodup := writ_ind (p := fun rs => (keysL (cnt0 rs)).Nodup) (by simp [cnt0, keysL]) (fun rs r ih => by
  rw [cnt0_snoc]
  split
  · by_cases h : r.e.n ∈ keysL (cnt0 rs)
    · rw [keys_put h]
      exact ih
    · rw [keys_put_new h, List.nodup_append]
      exact ⟨ih, by simp, fun a ha b hb e => h (by rw [List.mem_singleton.mp hb] at e; rw [← e]; exact ha)⟩
  · exact ih) rs
theorem seen0_nodup (rs : List Rg) : (keysL (seen0 rs)).Nodup := writ_ind (p := fun rs => (keysL (seen0 rs)).Nodup) (by simp [seen0, keysL]) (fun rs r ih => by
  rw [seen0_snoc]
  split
  · by_cases h : r.e.n ∈ keysL (seen0 rs)
    · rw [keys_put h]
      exact ih
    · rw [keys_put_new h, List.nodup_append]
      exact ⟨ih, by simp, fun a ha b hb e => h (by rw [List.mem_singleton.mp hb] at e; rw [← e]; exact ha)⟩
  · exact ih) rs
section
variable {P : Program} {w : World} {K : PySem.W.Frag} {mg : Str → Option Value} {base : Heap} {cs : Cs} {cc : Addr} {xc : Xc} {cw : Addr}
def spKept (K : PySem.W.Frag) (cs : Cs) (cw : Addr) : Sp := fun vs H Q _ => ∃ (x dx b c s : Addr) (lv : V) (u : Ws) (l : Lad), vs = [.ref x] ∧ H x = some (.ins cw dx (wkF lv b c s)) ∧ IsL K cs H lv l ∧ Tri H b c s u ∧ Fits l u ∧ l.fair = true ∧
  ∀ (H' : Hp) (t b' c' s' : Addr), Wd H H' b' c' s' (keptW l u) → H t = none → H' t = some (.tup [.ref b', .ref c', .ref s']) → Q (.ref t) H'
theorem disp_kept (T : TKept K mg cs cc xc cw) : DispAt P w K mg base CX0 (fun C => C = cw) "kept" 2 ["self"] (fun _ vs H Q _ => spKept K cs cw vs H Q E0) := by
  have G_written_names : DispAt P w K mg base CX0 (fun C => C = cs.ld) "written_names" 1 ["self"] (fun _ => spWrit K cs) := disp_written T.wk.lad
  refine ⟨fun C hC => ?_⟩
  subst hC
  refine methAt_ok T.wk.c_Works.cl T.m_kept sc_Works_kept (fun vs H Q E h => ?_) (fun f cdv A outer st H vs Q E hr h => ?_)
  · obtain ⟨x, dx, b, c, s, lv, u, l, rfl, _⟩ := h; rfl
  · obtain ⟨x, dx, b, c, s, lv, u, l, rfl, hx, hl, ht, hfit, hfair, k⟩ := h
    have hu := hu_of hr
    obtain ⟨f1, f2, f3, f4, f5, f6, f7, f8, f9⟩ := (fair_iff l).mp hfair
    refine ⟨_, (pss_cons (ps_set (i := 1) sc_Works_kept.nd rfl (by first | exact Or.inl rfl | exact Or.inr rfl) pe_dnewK)
        (pss_cons (ps_for PassesOwn.never rfl (pi_tup (pe_methD0 G_written_names hr pass0 (pe_fld (pv 0) rfl))) (pg_name (i := 2) sc_Works_kept.nd rfl (by first | exact Or.inl rfl | exact Or.inr rfl)) (pss_one (ps_dput hu (pv 1) (pv 2) (pe_dget (by exact hu) (pe_fld (pv 0) rfl) (pv 2) (fun _ _ => rfl)) rfl)))
        (pss_one (ps_ret (pe_tup (pa_cons (pv 1) (pa_cons (pe_callTy call_dictD (by rfl) T.z_dict (show PySem.bootBuiltins "dict" = some (.type "dict") by decide +kernel) (pa_cons (pe_fld (pv 0) rfl) pa_nil)) (pa_cons (pe_callTy call_dictD (by rfl) T.z_dict (show PySem.bootBuiltins "dict" = some (.type "dict") by decide +kernel) (pa_cons (pe_fld (pv 0) rfl) pa_nil)) pa_nil)))))))), ?_⟩
    walk_at "rd"
    obtain ⟨al, dl, ti, tt, tr, ws, rfl, hal, h1, h2, h3, h4⟩ := id hl
    have hub := hfit.bits_len
    have hcl := hfit.cnt_len
    have hsl := hfit.seen_len
    refine fun d nd => ?_
    have hd : upd H d (.dK []) d = some (.dK []) := upd_same
    have s1 : Same H (upd H d (.dK [])) := Same.new nd
    show tFor _ _ _ _ _ (upd H d (.dK []))
    generalize upd H d (.dK []) = H1 at hd s1 ⊢
    refine ⟨_, rfl, x, _, dx, _, _, rfl, s1 _ _ hx, T.wk.c_Works.cl, T.wk.nl_wk, lkW1, al, _, dl, _, rfl, s1 _ _ hal, rfl, lkLw, .ref al, l, rfl, hl.mono (Same.imm s1), by omega, fun H2 p2 s2 hp2 => ?_⟩
    have hd2 := s2 _ _ hd
    have s02 := s1.trans s2
    have pd : p2 ≠ d := fun e => by rw [e, hd2] at hp2; cases hp2
    refine ⟨p2, rfl, ⟨_, SqT.of hp2⟩, for_tup (K := K) (a := p2) (xs := (writ l.rs).map V.str) (fun i σ H' => ∃ v2 : Option V, σ = [some (.ref x), some (.ref d), v2] ∧ Same H H' ∧ H' p2 = some (.tup ((writ l.rs).map V.str)) ∧ H' d = some (.dK (dL V.bl (((writ l.rs).take i).map fun n => (n, u.bitOf n))))) ⟨none, rfl, s02, hp2, hd2⟩ (fun i σ H' _ ⟨_, _, _, q, _⟩ => SqT.of q) ?_ ?_⟩
    · rintro i y σ H3 hy ⟨v2, rfl, s3, hp3, hd3⟩
      rw [List.getElem?_map] at hy
      obtain ⟨n, hn, rfl⟩ := Option.map_eq_some_iff.mp hy
      have hi := (List.getElem?_eq_some_iff.mp hn).1
      obtain ⟨v, hv⟩ := getL_mem.mpr (show n ∈ keysL u.bits by rw [hfit.kb]; exact List.mem_append_right _ (List.mem_of_getElem? hn))
      have ev : v = u.bitOf n := by unfold Ws.bitOf; rw [hv]; rfl
      walk_at "rd"
      refine ⟨_, rfl, x, _, dx, _, _, rfl, s3 _ _ hx, T.wk.c_Works.cl, T.wk.nb_wk, lkW2, _, rfl, b, .bl v, rfl, .inl ⟨_, .inr n, .inl (s3 _ _ ht.hb), rfl, by rw [dL_get, hv]; rfl⟩, _, rfl, _, rfl, d, _, rfl, DPut.k (k := .inr n) hd3 (by rw [dL_len, List.length_map, List.length_take, sizeLine_eq]; omega), _, rfl, Same.mut s3 nd, by rw [upd_ne pd]; exact hp3, ?_⟩
      rw [upd_same, dL_put, ev, map_take_snocB hn (writ_nodup _)]
    · rintro σ H3 ⟨v2, rfl, s3, hp3, hd3⟩
      rw [List.length_map, List.take_length] at hd3
      walk_at "rd"
      refine ⟨_, rfl, x, _, dx, _, _, rfl, s3 _ _ hx, T.wk.c_Works.cl, T.wk.nc_wk, lkW3, c, rfl, _, .inl (s3 _ _ ht.hc), fun c2 nc2 => ?_⟩
      have s4 := s3.trans (Same.new (o := .dK (dL V.int u.cnt)) nc2)
      have hd4 := Same.new (o := .dK (dL V.int u.cnt)) nc2 _ _ hd3
      have hc4 : upd H3 c2 (.dK (dL V.int u.cnt)) c2 = some (.dK (dL V.int u.cnt)) := upd_same
      have dc : d ≠ c2 := ne_of_none hd3 nc2
      have nc0 : H c2 = none := s3.free nc2
      generalize upd H3 c2 (.dK (dL V.int u.cnt)) = H4 at s4 hd4 hc4 ⊢
      refine ⟨_, rfl, x, _, dx, _, _, rfl, s4 _ _ hx, T.wk.c_Works.cl, T.wk.ns_wk, lkW4, s, rfl, _, .inl (s4 _ _ ht.hs), fun s2' ns2 => ⟨line_ge (by simp), fun t nt => ?_⟩⟩
      have e5 := (Same.new (o := .dK (dL V.bl u.seen)) ns2).trans (Same.new (o := .tup [.ref d, .ref c2, .ref s2']) nt)
      have hs5 := Same.new (o := .tup [.ref d, .ref c2, .ref s2']) nt _ _ (show upd H4 s2' (.dK (dL V.bl u.seen)) s2' = some (.dK (dL V.bl u.seen)) from upd_same)
      have ds : d ≠ s2' := ne_of_none hd4 ns2
      have cs' : c2 ≠ s2' := ne_of_none hc4 ns2
      have nt0 : H t = none := s4.free ((Same.new ns2).free nt)
      exact k _ t d c2 s2' ⟨s4.trans e5, ⟨e5 _ _ hd4, e5 _ _ hc4, hs5, dc, ds, cs'⟩, nd, nc0, s4.free ns2⟩ nt0 upd_same

/-- what stands kept: three dicts in a tuple -/
def spBack (K : PySem.W.Frag) (cs : Cs) (cw : Addr) : Sp := fun vs H Q _ => ∃ (x dx b c s kt b' c' s' : Addr) (lv : V) (u kw : Ws) (l : Lad), vs = [.ref x, .ref kt] ∧ H x = some (.ins cw dx (wkF lv b c s)) ∧ IsL K cs H lv l ∧ Tri H b c s u ∧ Fits l u ∧ l.fair = true ∧
  H kt = some (.tup [.ref b', .ref c', .ref s']) ∧ Tri H b' c' s' kw ∧ KFits l kw ∧ Ap3 b c s b' c' s' ∧ ∀ H' : Hp, But3 b c s H H' → Tri H' b c s (backW l kw) → Q .non H'
theorem disp_back (T : TKept K mg cs cc xc cw) : DispAt P w K mg base CX0 (fun C => C = cw) "put_back" 2 ["self", "kept"] (fun _ vs H Q _ => spBack K cs cw vs H Q E0) := by
  refine ⟨fun C hC => ?_⟩
  subst hC
  refine methAt_ok T.wk.c_Works.cl T.m_put_back sc_Works_put_back (fun vs H Q E h => ?_) (fun f cdv A outer st H vs Q E hr h => ?_)
  · obtain ⟨x, dx, b, c, s, kt, b', c', s', lv, u, kw, l, rfl, _⟩ := h; rfl
  · obtain ⟨x, dx, b, c, s, kt, b', c', s', lv, u, kw, l, rfl, hx, hl, ht, hfit, hfair, hkt, htk, hkf, ap, k⟩ := h
    have hu := hu_of hr
    obtain ⟨f1, f2, f3, f4, f5, f6, f7, f8, f9⟩ := (fair_iff l).mp hfair
    refine ⟨_, (pss_cons (ps_for PassesOwn.never rfl (pi_tup (pe_fld (pe_fld (pv 0) rfl) rfl)) (pg_name (i := 2) sc_Works_put_back.nd rfl (by first | exact Or.inl rfl | exact Or.inr rfl)) (pss_one (ps_dput hu (pe_fld (pv 0) rfl) (pv 2) pe_bl rfl)))
        (pss_cons (ps_expr (pe_bm PySem.F.plainAttrs_dict PySem.F.slot_dict_update PySem.F.type_dict_update mtd_update (pe_fld (pv 0) rfl) (pa_cons (pe_ix ix_tup (pv 1) pe_int (fun _ _ => rfl)) pa_nil)))
        (pss_cons (ps_expr (pe_bm PySem.F.plainAttrs_dict PySem.F.slot_dict_update PySem.F.type_dict_update mtd_update (pe_fld (pv 0) rfl) (pa_cons (pe_ix ix_tup (pv 1) pe_int (fun _ _ => rfl)) pa_nil)))
        (pss_one (ps_expr (pe_bm PySem.F.plainAttrs_dict PySem.F.slot_dict_update PySem.F.type_dict_update mtd_update (pe_fld (pv 0) rfl) (pa_cons (pe_ix ix_tup (pv 1) pe_int (fun _ _ => rfl)) pa_nil))))))), ?_⟩
    walk_at "rd"
    obtain ⟨al, dl, ti, tt, tr, ws, rfl, hal, h1, h2, h3, h4⟩ := id hl
    have xne : x ≠ b ∧ x ≠ c ∧ x ≠ s := ⟨fun e => (by rw [e, ht.hb] at hx; cases hx), fun e => (by rw [e, ht.hc] at hx; cases hx), fun e => (by rw [e, ht.hs] at hx; cases hx)⟩
    have hub := hfit.bits_len
    have hcl := hfit.cnt_len
    have hsl := hfit.seen_len
    have all : ∀ {H' : Hp}, But3 b c s H H' → H' x = some (.ins C dx (wkF (.ref al) b c s)) ∧ H' kt = some (.tup [.ref b', .ref c', .ref s']) ∧ Tri H' b' c' s' kw := fun k3 =>
      ⟨k3 _ _ hx xne.1 xne.2.1 xne.2.2, (k3.noD ht).tup hkt, htk.butA k3 ap.symm⟩
    refine ⟨_, rfl, x, _, dx, _, _, rfl, hx, T.wk.c_Works.cl, T.wk.nl_wk, lkW1, al, _, dl, _, _, rfl, hal, T.wk.lad.c_Ladder.cl, T.wk.lad.ni_ld, lkL1, ti, rfl, ⟨_, h1.seq⟩, for_tup (K := K) (a := ti) (xs := l.ins.map V.str) (fun i σ H' => ∃ v2 : Option V, σ = [some (.ref x), some (.ref kt), v2] ∧ But3 b c s H H' ∧ Tri H' b c s ⟨putAll u.bits ((l.ins.take i).map fun n => (n, false)), u.cnt, u.seen⟩) ⟨none, rfl, But3.refl _, ht⟩ (fun i σ H' _ ⟨_, _, q, _⟩ => (h1.mono (T := fun _ => False) (q.imm ht)).seq) ?_ ?_⟩
    · rintro i y σ H1 hy ⟨v2, rfl, k1, t1⟩
      rw [List.getElem?_map] at hy
      obtain ⟨n, hn, rfl⟩ := Option.map_eq_some_iff.mp hy
      have hi := (List.getElem?_eq_some_iff.mp hn).1
      have hl1 : (putAll u.bits ((l.ins.take i).map fun n => (n, false))).length ≤ u.bits.length + i := by
        have : ∀ (r b : List (Str × Bool)), (putAll b r).length ≤ b.length + r.length := fun r => by
          induction r with
          | nil => intro b; exact Nat.le_refl _
          | cons p r ih =>
            intro b
            have h1 := ih (putL b p.1 p.2)
            have h2 := put_le (l := b) (n := p.1) (v := p.2)
            show (putAll (putL b p.1 p.2) r).length ≤ _
            rw [List.length_cons]
            omega
        have h := this ((l.ins.take i).map fun n => (n, false)) u.bits
        rw [List.length_map, List.length_take] at h
        omega
      walk_at "rd"
      refine ⟨_, rfl, x, _, dx, _, _, rfl, (all k1).1, T.wk.c_Works.cl, T.wk.nb_wk, lkW2, _, rfl, b, _, rfl, DPut.k (k := .inr n) t1.hb (by rw [dL_len, sizeLine_eq]; show (putAll _ _).length < _; omega), _, rfl, k1.trans But3.ub, ?_⟩
      have q := t1.putB (putL (putAll u.bits ((l.ins.take i).map fun n => (n, false))) n false)
      rw [← dL_put] at q
      rw [List.take_succ, hn, Option.toList_some, List.map_append, putAll_app]
      exact q
    rintro σ H1 ⟨v2, rfl, k1, t1⟩
    rw [List.length_map, List.take_length] at t1
    obtain ⟨hx1, hk1, tk1⟩ := all k1
    have hnd : (keysL u.bits).Nodup := by
      rw [hfit.kb, List.nodup_append]
      exact ⟨f2, writ_nodup _, fun a ha b hb e => f6 a ha (by rw [e]; exact hb)⟩
    have eb : putAll (putAll u.bits (l.ins.map fun n => (n, false))) kw.bits = (backW l kw).bits := by
      rw [← putAll_app]
      refine putAll_all ?_ hnd
      rw [hfit.kb, keysL, List.map_append, show kw.bits.map (·.1) = writ l.rs from hkf.kb]
      simp [Function.comp_def]
    have ec : putAll u.cnt kw.cnt = kw.cnt := putAll_all (by rw [hfit.kc, hkf.kc]) (by rw [hfit.kc]; exact cnt0_nodup _)
    have es : putAll u.seen kw.seen = kw.seen := putAll_all (by rw [hfit.ks, hkf.ks]) (by rw [hfit.ks]; exact seen0_nodup _)
    have lb : (putAll u.bits (l.ins.map fun n => (n, false))).length ≤ 1000 := by
      have : ∀ (r b : List (Str × Bool)), (putAll b r).length ≤ b.length + r.length := fun r => by
        induction r with
        | nil => intro b; exact Nat.le_refl _
        | cons p r ih =>
          intro b
          have h1 := ih (putL b p.1 p.2)
          have h2 := put_le (l := b) (n := p.1) (v := p.2)
          show (putAll (putL b p.1 p.2) r).length ≤ _
          rw [List.length_cons]
          omega
      have h := this (l.ins.map fun n => (n, false)) u.bits
      rw [List.length_map] at h
      omega
    have lkb : kw.bits.length ≤ 1000 := by
      have := congrArg List.length hkf.kb
      rw [len_keys] at this
      omega
    have lkc : kw.cnt.length ≤ 1000 := by
      have h1 := congrArg List.length hkf.kc
      rw [len_keys, len_keys] at h1
      have := cnt0_len l.rs
      omega
    have lks : kw.seen.length ≤ 1000 := by
      have h1 := congrArg List.length hkf.ks
      rw [len_keys, len_keys] at h1
      have := seen0_len l.rs
      omega
    generalize putAll u.bits (l.ins.map fun n => (n, false)) = b1 at t1 eb lb
    walk_at "rd"
    unfold tBM
    walk_at "rd"
    refine ⟨_, rfl, x, _, dx, _, _, rfl, hx1, T.wk.c_Works.cl, T.wk.nb_wk, lkW2, .inr (.inr (.inl ⟨rfl, .inl ⟨_, t1.hb⟩⟩)), kt, _, 0, .ref b', rfl, rfl, SqT.of hk1, atI_int (by decide) rfl, ?_⟩
    refine ⟨b, b', _, _, rfl, rfl, t1.hb, tk1.hb, ap.1.1, line_ge (by rw [dL_len, dL_len]; show b1.length + kw.bits.length ≤ _; omega), ?_⟩
    rw [dL_merge, eb]
    have t2 := t1.putB (backW l kw).bits
    have k2 := k1.trans (But3.ub (b := b) (c := c) (s := s) (o := .dK (dL V.bl (backW l kw).bits)))
    generalize upd H1 b (.dK (dL V.bl (backW l kw).bits)) = H2 at t2 k2 ⊢
    obtain ⟨hx2, hk2, tk2⟩ := all k2
    refine ⟨_, rfl, x, _, dx, _, _, rfl, hx2, T.wk.c_Works.cl, T.wk.nc_wk, lkW3, .inr (.inr (.inl ⟨rfl, .inl ⟨_, t2.hc⟩⟩)), kt, _, 1, .ref c', rfl, rfl, SqT.of hk2, atI_int (by decide) rfl, ?_⟩
    refine ⟨c, c', _, _, rfl, rfl, t2.hc, tk2.hc, ap.2.1.2.1, line_ge (by rw [dL_len, dL_len]; show u.cnt.length + kw.cnt.length ≤ _; omega), ?_⟩
    rw [dL_merge, show putAll (Ws.mk (backW l kw).bits u.cnt u.seen).cnt kw.cnt = kw.cnt from ec]
    have t3 := t2.putC kw.cnt
    have k3 := k2.trans (But3.uc (b := b) (c := c) (s := s) (o := .dK (dL V.int kw.cnt)))
    generalize upd H2 c (.dK (dL V.int kw.cnt)) = H3 at t3 k3 ⊢
    obtain ⟨hx3, hk3, tk3⟩ := all k3
    refine ⟨_, rfl, x, _, dx, _, _, rfl, hx3, T.wk.c_Works.cl, T.wk.ns_wk, lkW4, .inr (.inr (.inl ⟨rfl, .inl ⟨_, t3.hs⟩⟩)), kt, _, 2, .ref s', rfl, rfl, SqT.of hk3, atI_int (by decide) rfl, ?_⟩
    refine ⟨s, s', _, _, rfl, rfl, t3.hs, tk3.hs, ap.2.2.2.2, line_ge (by rw [dL_len, dL_len]; show u.seen.length + kw.seen.length ≤ _; omega), ?_⟩
    rw [dL_merge, show putAll (Ws.mk (backW l kw).bits kw.cnt u.seen).seen kw.seen = kw.seen from es]
    exact k _ (k3.trans But3.us) (t3.putS kw.seen)
end

/-! ## a row's bits, works put back -/
theorem putAll_suf : ∀ (r b pre suf : List (Str × Bool)), keysL b = keysL r → (keysL (pre ++ b ++ suf)).Nodup → putAll (pre ++ b ++ suf) r = pre ++ r ++ suf
  | [], b, pre, suf, h, _ => by
    have : b = [] := by
      rw [keysL, keysL, List.map_nil, List.map_eq_nil_iff] at h
      exact h
    rw [this]
    rfl
  | (n, v) :: r, b, pre, suf, h, hn => by
    cases b with
    | nil => simp [keysL] at h
    | cons q b =>
      obtain ⟨m, v0⟩ := q
      simp only [keysL, List.map_cons, List.cons.injEq] at h
      obtain ⟨rfl, h⟩ := h
      have e0 : pre ++ (m, v0) :: b ++ suf = pre ++ (m, v0) :: (b ++ suf) := by simp
      rw [e0] at hn ⊢
      show putAll (putL (pre ++ (m, v0) :: (b ++ suf)) m v) r = _
      rw [putL_mid hn]
      have e : pre ++ (m, v) :: (b ++ suf) = (pre ++ [(m, v)]) ++ b ++ suf := by simp
      rw [e, putAll_suf r b (pre ++ [(m, v)]) suf h (by
        have : keysL (pre ++ [(m, v)] ++ b ++ suf) = keysL (pre ++ (m, v0) :: (b ++ suf)) := by simp [keysL]
        rw [this]
        exact hn)]
      simp
/-- bits by their names -/
theorem bits_eq : ∀ {b : List (Str × Bool)} {f : Str → Bool}, (∀ p ∈ b, f p.1 = p.2) → b = (keysL b).map fun n => (n, f n)
  | [], _, _ => rfl
  | p :: b, f, h => by
    have e := bits_eq (b := b) (f := f) fun q hq => h q (List.mem_cons_of_mem _ hq)
    show p :: b = (p.1, f p.1) :: (keysL b).map _
    rw [← e, h p List.mem_cons_self]
theorem bitOf_mem {u : Ws} (hn : (keysL u.bits).Nodup) : ∀ p ∈ u.bits, u.bitOf p.1 = p.2 := by
  intro p hp
  have hb : ∀ {b : List (Str × Bool)}, (keysL b).Nodup → p ∈ b → getL b p.1 = some p.2 := by
    intro b
    induction b with
    | nil => intro _ h; cases h
    | cons x b ih =>
      intro h hq
      rw [keysL, List.map_cons, List.nodup_cons] at h
      unfold getL
      rcases List.mem_cons.mp hq with rfl | hq
      · rw [List.find?_cons_of_pos (by simp)]
        rfl
      · have : x.1 ≠ p.1 := fun e => h.1 (by rw [e]; exact List.mem_map.mpr ⟨p, hq, rfl⟩)
        rw [List.find?_cons_of_neg (by simpa using this)]
        exact ih h.2 hq
  unfold Ws.bitOf
  rw [hb hn hp]
  rfl
theorem fair_nodup {l : Lad} (hf : l.fair = true) : (l.ins ++ writ l.rs).Nodup := by
  obtain ⟨f1, f2, f3, f4, f5, f6, f7, f8, f9⟩ := (fair_iff l).mp hf
  rw [List.nodup_append]
  exact ⟨f2, writ_nodup _, fun a ha b hb e => f6 a ha (by rw [e]; exact hb)⟩
/-- the inputs of a row ahead of what is written -/
theorem row_bits {l : Lad} {u : Ws} {row : List Bool} (hf : l.fair = true) (f : Fits l u) (h : row.length = l.ins.length) : putRow u.bits (l.ins.zip row) = l.ins.zip row ++ wbits l u := by
  have hn : (keysL u.bits).Nodup := by rw [f.kb]; exact fair_nodup hf
  have e1 : u.bits = ((l.ins.map fun n => (n, u.bitOf n)) ++ wbits l u) := by
    have := bits_eq (bitOf_mem hn)
    rw [f.kb, List.map_append] at this
    exact this
  have hk : keysL (l.ins.zip row) = l.ins := by
    rw [keysL, List.map_fst_zip (by omega)]
  have := putAll_suf (l.ins.zip row) (l.ins.map fun n => (n, u.bitOf n)) [] (wbits l u) (by rw [hk]; simp [keysL, Function.comp_def]) (by
    rw [List.nil_append, ← e1]
    exact hn)
  rw [List.nil_append, ← e1] at this
  exact this
theorem scan_back {l : Lad} {u : Ws} {row : List Bool} (hf : l.fair = true) (f : Fits l u) (h : row.length = l.ins.length) : scanP l (backW l (keptW l u)) row = scanP l u row := by
  have e : wbits l (backW l (keptW l u)) = wbits l u := by
    have fb := backW_fits (keptW_fits f)
    have hn : (keysL (backW l (keptW l u)).bits).Nodup := by rw [fb.kb]; exact fair_nodup hf
    refine List.map_congr_left fun n hn' => ?_
    have := bitOf_mem hn (n, u.bitOf n) (List.mem_append_right _ (List.mem_map.mpr ⟨n, hn', rfl⟩))
    rw [this]
  unfold scanP
  rw [row_bits hf (backW_fits (keptW_fits f)) h, row_bits hf f h, e]
  rfl

theorem NoD.sqL {K : PySem.W.Frag} {H H' : Hp} {a : Addr} {xs : List V} (k : NoD H H') (h : SqL K H a xs) : SqL K H' a xs := by
  rcases h with (h | ⟨o, h⟩) | h
  · exact .inl (.inl (k _ _ h fun _ q => by cases q))
  · exact .inl (.inr ⟨o, k _ _ h fun _ q => by cases q⟩)
  · exact .inr h
theorem NoD.sqT {K : PySem.W.Frag} {H H' : Hp} {a : Addr} {xs : List V} (k : NoD H H') (h : SqT K H a xs) : SqT K H' a xs := by
  rcases h with (h | ⟨o, h⟩) | h
  · exact .inl (.inl (k _ _ h fun _ q => by cases q))
  · exact .inl (.inr ⟨o, k _ _ h fun _ q => by cases q⟩)
  · exact .inr h
theorem NoD.ins {H H' : Hp} {a C dx : Addr} {fs : List (Str × V)} (k : NoD H H') (h : H a = some (.ins C dx fs)) : H' a = some (.ins C dx fs) := k _ _ h (fun _ q => by cases q)
/-- other dicts stay -/
theorem Tri.but {H H' : Hp} {b c s b2 c2 s2 : Addr} {u : Ws} (t : Tri H b c s u) (k : But3 b2 c2 s2 H H') (n : (b ≠ b2 ∧ b ≠ c2 ∧ b ≠ s2) ∧ (c ≠ b2 ∧ c ≠ c2 ∧ c ≠ s2) ∧ (s ≠ b2 ∧ s ≠ c2 ∧ s ≠ s2)) : Tri H' b c s u :=
  ⟨k _ _ t.hb n.1.1 n.1.2.1 n.1.2.2, k _ _ t.hc n.2.1.1 n.2.1.2.1 n.2.1.2.2, k _ _ t.hs n.2.2.1 n.2.2.2.1 n.2.2.2.2, t.bc, t.bs, t.cs⟩
theorem cutV_map {α : Type} (f : α → V) (l : List α) (lo hi : Option Int) : ∃ l' : List α, cutV (l.map f) lo hi = l'.map f := by
  unfold cutV
  rw [← List.map_drop, ← List.map_take]
  exact ⟨_, rfl⟩
theorem bl_inj {a b : List Bool} (h : a.map V.bl = b.map V.bl) : a = b := (List.map_inj_right (fun _ _ h => by injection h)).mp h
theorem bl_flat : ∀ l : List Bool, (l.map V.bl).all flatV = true
  | [] => rfl
  | _ :: l => bl_flat l
theorem bl_isBl {l : List Bool} : ∀ v ∈ l.map V.bl, isBlV v = true := by
  intro v hv
  obtain ⟨b, _, rfl⟩ := List.mem_map.mp hv
  rfl

--%% N19
/-! ## k24's own: copied, kept right, refused -/
abbrev s__law_copied : Stmt := top 68
theorem sc__law_copied : FnScope ["_law_state"] ["_law_state"] (defScope s__law_copied) := ⟨rfl, rfl, rfl, by decide +kernel, rfl, by decide +kernel, by decide +kernel⟩
abbrev s__law_kept_right : Stmt := top 69
theorem sc__law_kept_right : FnScope ["_law_drawn_here", "_law_found", "_law_state", "_law_bits", "_law_name"] ["_law_drawn_here", "_law_found", "_law_state"] (defScope s__law_kept_right) := ⟨rfl, rfl, rfl, by decide +kernel, rfl, by decide +kernel, by decide +kernel⟩
abbrev s__law_refused : Stmt := top 70
theorem sc__law_refused : FnScope ["_law_works", "_law_row_here", "_law_cell", "_law_handed"] ["_law_works", "_law_row_here", "_law_cell"] (defScope s__law_refused) := ⟨rfl, rfl, rfl, by decide +kernel, rfl, by decide +kernel, by decide +kernel⟩
structure T24 (K : PySem.W.Frag) (mg : Str → Option Value) (cs : Cs) (cc : Addr) (xc : Xc) (cw : Addr) : Prop where
  told : TTld K mg cs cc xc cw
  kept : TKept K mg cs cc xc cw
  row : TRow K mg
  sc : TScan K mg cs cc xc cw
  d_copied : DefAt K mg "_law_copied" s__law_copied ["_law_state"]
  d_kept_right : DefAt K mg "_law_kept_right" s__law_kept_right ["_law_drawn_here", "_law_found", "_law_state"]
  d_refused : DefAt K mg "_law_refused" s__law_refused ["_law_works", "_law_row_here", "_law_cell"]
  z_dict : mg "dict" = none
  z_isinstance : mg "isinstance" = none
  z_tuple : mg "tuple" = none
  z_list : mg "list" = none
  z_len : mg "len" = none
theorem ixN_at {n j : Nat} (hj : j < n) : ixN n (j : Int) = some j := by
  unfold ixN
  rw [if_pos (by omega), if_pos (by omega)]
  simp
theorem good_vals {α : Type} {f : α → V} : ∀ {l : List (Str × α)}, (keysL l).Nodup → ∀ r ∈ dL f l, valV (dL f l) r.1 = some r.2
  | [], _, _, h => by cases h
  | x :: l, hn, r, hr => by
    rw [keysL, List.map_cons, List.nodup_cons] at hn
    rcases List.mem_cons.mp hr with rfl | hr
    · exact valV_pos rfl
    · have ih := good_vals hn.2 r hr
      obtain ⟨q, hq, rfl⟩ := List.mem_map.mp hr
      have : x.1 ≠ q.1 := fun e => hn.1 (by rw [e]; exact List.mem_map.mpr ⟨q, hq, rfl⟩)
      have e : valV (dL f (x :: l)) (.inr q.1 : Key) = valV (dL f l) (.inr q.1 : Key) := valV_neg fun z => this (by injection z)
      rw [e]
      exact ih
section
variable {P : Program} {w : World} {K : PySem.W.Frag} {mg : Str → Option Value} {base : Heap} {cs : Cs} {cc : Addr} {xc : Xc} {cw : Addr}
def spCopied : Sp := fun vs H Q _ => ∃ (t b c s : Addr) (u : Ws), vs = [.ref t] ∧ H t = some (.tup [.ref b, .ref c, .ref s]) ∧ Tri H b c s u ∧ u.bits.length ≤ 1000 ∧ u.cnt.length ≤ 1000 ∧ u.seen.length ≤ 1000 ∧
  ∀ (H' : Hp) (t' b' c' s' : Addr), Wd H H' b' c' s' u → H t' = none → H' t' = some (.tup [.ref b', .ref c', .ref s']) → Q (.ref t') H'
theorem ok_copied (T : T24 K mg cs cc xc cw) : FnAt P w K mg base CX0 "_law_copied" 1 ["_law_state"] spCopied := by
  refine fnAt_ok T.d_copied sc__law_copied (fun vs H Q E h => ?_) (fun f cdv A outer st H vs Q E hr h => ?_)
  · obtain ⟨t, b, c, s, u, rfl, _⟩ := h; rfl
  · obtain ⟨t, b, c, s, u, rfl, hx, ht, _, _, _, k⟩ := h
    have hu := hu_of hr
    refine ⟨_, (pss_one (ps_ret (pe_tup (pa_cons (pe_callTy call_dictD (by rfl) T.z_dict (show PySem.bootBuiltins "dict" = some (.type "dict") by decide +kernel) (pa_cons (pe_ix ix_tup (pv 0) pe_int (fun _ _ => rfl)) pa_nil)) (pa_cons (pe_callTy call_dictD (by rfl) T.z_dict (show PySem.bootBuiltins "dict" = some (.type "dict") by decide +kernel) (pa_cons (pe_ix ix_tup (pv 0) pe_int (fun _ _ => rfl)) pa_nil)) (pa_cons (pe_callTy call_dictD (by rfl) T.z_dict (show PySem.bootBuiltins "dict" = some (.type "dict") by decide +kernel) (pa_cons (pe_ix ix_tup (pv 0) pe_int (fun _ _ => rfl)) pa_nil)) pa_nil)))))), ?_⟩
    walk_at "rd"
    refine ⟨t, _, 0, .ref b, rfl, rfl, SqT.of hx, atI_int (by decide) rfl, b, rfl, _, .inl ht.hb, fun b2 nb2 => ?_⟩
    have s1 := Same.new (o := .dK (dL V.bl u.bits)) nb2
    have hb1 : upd H b2 (.dK (dL V.bl u.bits)) b2 = some (.dK (dL V.bl u.bits)) := upd_same
    generalize upd H b2 (.dK (dL V.bl u.bits)) = H1 at s1 hb1 ⊢
    refine ⟨t, _, 1, .ref c, rfl, rfl, SqT.of (s1 _ _ hx), atI_int (by decide) rfl, c, rfl, _, .inl (s1 _ _ ht.hc), fun c2 nc2 => ?_⟩
    have s2 := s1.trans (Same.new (o := .dK (dL V.int u.cnt)) nc2)
    have hb2 := Same.new (o := .dK (dL V.int u.cnt)) nc2 _ _ hb1
    have hc2 : upd H1 c2 (.dK (dL V.int u.cnt)) c2 = some (.dK (dL V.int u.cnt)) := upd_same
    have bc : b2 ≠ c2 := ne_of_none hb1 nc2
    have nc0 := s1.free nc2
    generalize upd H1 c2 (.dK (dL V.int u.cnt)) = H2 at s2 hb2 hc2 ⊢
    refine ⟨t, _, 2, .ref s, rfl, rfl, SqT.of (s2 _ _ hx), atI_int (by decide) rfl, s, rfl, _, .inl (s2 _ _ ht.hs), fun s2' ns2 => ⟨line_ge (by simp), fun t' nt => ?_⟩⟩
    have e5 := (Same.new (o := .dK (dL V.bl u.seen)) ns2).trans (Same.new (o := .tup [.ref b2, .ref c2, .ref s2']) nt)
    have hs5 := Same.new (o := .tup [.ref b2, .ref c2, .ref s2']) nt _ _ (show upd H2 s2' (.dK (dL V.bl u.seen)) s2' = some (.dK (dL V.bl u.seen)) from upd_same)
    have bs : b2 ≠ s2' := ne_of_none hb2 ns2
    have cs' : c2 ≠ s2' := ne_of_none hc2 ns2
    have nt0 : H t' = none := s2.free ((Same.new ns2).free nt)
    exact k _ t' b2 c2 s2' ⟨s2.trans e5, ⟨e5 _ _ hb2, e5 _ _ hc2, hs5, bc, bs, cs'⟩, nb2, nc0, s2.free ns2⟩ nt0 upd_same
def spKeptR (K : PySem.W.Frag) : Sp := fun vs H Q _ => ∃ (dv : V) (kt st b' c' s' b c s : Addr) (u : Ws) (l : Lad), vs = [dv, .ref kt, .ref st] ∧ IsDr K H dv l ∧ l.fair = true ∧ Fits l u ∧ H kt = some (.tup [.ref b', .ref c', .ref s']) ∧ Tri H b' c' s' (keptW l u) ∧ H st = some (.tup [.ref b, .ref c, .ref s]) ∧ Tri H b c s u ∧ Ap3 b' c' s' b c s ∧
  ∀ H', Same H H' → Q (.bl true) H'
theorem ok_keptR (T : T24 K mg cs cc xc cw) : FnAt P w K mg base CX0 "_law_kept_right" 1 ["_law_drawn_here", "_law_found", "_law_state"] (spKeptR K) := by
  refine fnAt_ok T.d_kept_right sc__law_kept_right (fun vs H Q E h => ?_) (fun f cdv A outer st H vs Q E hr h => ?_)
  · obtain ⟨dv, kt, st, b', c', s', b, c, s, u, l, rfl, _⟩ := h; rfl
  · obtain ⟨dv, kt, st, b', c', s', b, c, s, u, l, rfl, hd, hfair, hfit, hkt, tk, hst, ts, ap, k⟩ := h
    have hu := hu_of hr
    refine ⟨_, (pss_cons (ps_if (PW.pt (pw_or (pt_not (pt_val (pe_callB call_isTup (by rfl) T.z_isinstance (by decide +kernel) (pa_cons (pv 1) (pa_cons (pe_bltn (v := .ty "tuple") (by rfl) T.z_tuple (by decide +kernel) rfl) pa_nil))))) (pw_or1 (pt_cmpR op_ne (pe_callB call_len_seq (by rfl) T.z_len PySem.boot_len (pa_cons (pv 1) pa_nil)) pe_int (nomark _))))) (pss_one (ps_ret pe_bl)) pss_nil)
        (pss_cons (ps_set (i := 3) sc__law_kept_right.nd rfl (by first | exact Or.inl rfl | exact Or.inr rfl) pe_dnewK)
        (pss_cons (ps_lock (ps_for PassesOwn.never rfl (pi_keys (pe_ix ix_tup (pv 2) pe_int (fun _ _ => rfl))) (pg_name (i := 4) sc__law_kept_right.nd rfl (by first | exact Or.inl rfl | exact Or.inr rfl)) (pss_one (ps_if (pt_cmpR op_notIn_seq (pv 4) (pe_ix ix_tup (pv 0) pe_int (fun _ _ => rfl)) rfl) (pss_one (ps_dput hu (pv 3) (pv 4) (pe_dget (by exact hu) (pe_ix ix_tup (pv 2) pe_int (fun _ _ => rfl)) (pv 4) (fun _ _ => rfl)) rfl)) pss_nil))))
        (pss_one (ps_ret (pe_cmpR (op_eqTD hu) (pv 1) (pe_tup (pa_cons (pv 3) (pa_cons (pe_ix ix_tup (pv 2) pe_int (fun _ _ => rfl)) (pa_cons (pe_ix ix_tup (pv 2) pe_int (fun _ _ => rfl)) pa_nil)))) (nomark _))))))), ?_⟩
    walk_at "rd"
    obtain ⟨a, ti, tt, p, ws, rfl, ha, h1, h2, h3, h4⟩ := id hd
    have hn := fair_nodup hfair
    obtain ⟨f1, f2, f3, f4, f5, f6, f7, f8, f9⟩ := (fair_iff l).mp hfair
    have hub := hfit.bits_len
    refine ⟨kt, _, rfl, hkt, true, rfl, iteF ⟨_, .inr (SqT.of hkt), iteF fun d nd => ?_⟩⟩
    have s1 : Same H (upd H d (.dK [])) := Same.new nd
    have hd1 : upd H d (.dK []) d = some (.dK []) := upd_same
    generalize upd H d (.dK []) = H1 at s1 hd1 ⊢
    have ts1 := ts.keep s1
    have tk1 := tk.keep s1
    have db : d ≠ b := fun e => by rw [e, ts.hb] at nd; cases nd
    refine ⟨b, _, ts1.hb, trivial, fun od => ?_⟩
    have sl : ∀ H', Same (upd H1 b (.frz od (.dK (dL V.bl u.bits)))) H' → Same H1 (upd H' b (.dK (dL V.bl u.bits))) := fun H' q => lock_same ts1.hb q
    have hf : upd H1 b (.frz od (.dK (dL V.bl u.bits))) b = some (.frz od (.dK (dL V.bl u.bits))) := upd_same
    have hdf : upd H1 b (.frz od (.dK (dL V.bl u.bits))) d = some (.dK []) := lock_at db hd1
    have stf : upd H1 b (.frz od (.dK (dL V.bl u.bits))) st = some (.tup [.ref b, .ref c, .ref s]) := lock_at (fun e => by have q := s1 _ _ hst; rw [e, ts1.hb] at q; cases q) (s1 _ _ hst)
    have haf : upd H1 b (.frz od (.dK (dL V.bl u.bits))) a = some (.tup [.ref ti, .ref tt, .ref p]) := lock_at (fun e => by have q := s1 _ _ ha; rw [e, ts1.hb] at q; cases q) (s1 _ _ ha)
    have hti : SqT K (upd H1 b (.frz od (.dK (dL V.bl u.bits)))) ti (l.ins.map V.str) := by
      rcases h1.mono (T := fun _ => False) (Same.imm s1) with q | q
      · exact SqT.of (lock_at (fun e => by rw [e, ts1.hb] at q; cases q) q)
      · exact q _
    generalize hHf : upd H1 b (.frz od (.dK (dL V.bl u.bits))) = Hf at sl hf hdf stf haf hti ⊢
    refine ⟨_, rfl, st, _, 0, .ref b, rfl, rfl, SqT.of stf, atI_int (by decide) rfl, b, od, rfl, .inl ⟨_, hf, for_it walk_keys (fun i σ H' => ∃ v4 : Option V, σ = [some (.ref a), some (.ref kt), some (.ref st), some (.ref d), v4] ∧ But d Hf H' ∧ H' d = some (.dK (dL V.bl ((((l.ins ++ writ l.rs).take i).filter fun n => decide (n ∉ l.ins)).map fun n => (n, u.bitOf n))))) ⟨_, rfl, fun _ _ e _ => e, hdf⟩ (fun i σ H' _ ⟨_, _, q, _⟩ => q _ _ hf db.symm) ?_ ?_⟩⟩
    · have hti2 : ∀ {H' : Hp}, But d Hf H' → SqT K H' ti (l.ins.map V.str) := fun k2 => by
        rcases hti with (q | ⟨o, q⟩) | q
        · exact .inl (.inl (k2 _ _ q (fun e => by rw [e, hdf] at q; cases q)))
        · exact .inl (.inr ⟨o, k2 _ _ q (fun e => by rw [e, hdf] at q; cases q)⟩)
        · exact .inr q
      rintro i y σ H2 _ hi ⟨v4, rfl, k2, hd2⟩ ⟨rfl, kk, vv, hkv, rfl⟩
      unfold dL at hkv
      rw [List.getElem?_map] at hkv
      obtain ⟨⟨n, bv⟩, hnb, e⟩ := Option.map_eq_some_iff.mp hkv
      cases e
      have hin : (l.ins ++ writ l.rs)[i]? = some n := by
        rw [← hfit.kb, keysL, List.getElem?_map, hnb]
        rfl
      have hmem : n ∈ keysL u.bits := by rw [hfit.kb]; exact List.mem_of_getElem? hin
      obtain ⟨v, hv⟩ := getL_mem.mpr hmem
      have ev : v = u.bitOf n := by unfold Ws.bitOf; rw [hv]; rfl
      have nst : st ≠ d := fun e => by rw [e, hdf] at stf; cases stf
      have na : a ≠ d := fun e => by rw [e, hdf] at haf; cases haf
      have st2 := k2 _ _ stf nst
      have ha2 := k2 _ _ haf na
      walk_at "rd"
      refine ⟨a, _, 0, .ref ti, rfl, rfl, SqT.of ha2, atI_int (by decide) rfl, ti, _, rfl, .inr (hti2 k2), rfl, all_flatS _, _, rfl, ?_⟩
      rw [if_pos rfl, show inV (kV (Sum.inr n : Key)) (l.ins.map V.str) = decide (n ∈ l.ins) from inV_strs n l.ins]
      have efil : ((l.ins ++ writ l.rs).take (i + 1)).filter (fun n => decide (n ∉ l.ins)) = ((l.ins ++ writ l.rs).take i).filter (fun n => decide (n ∉ l.ins)) ++ if n ∈ l.ins then [] else [n] := by
        rw [List.take_succ, hin, Option.toList_some, List.filter_append]
        congr 1
        by_cases q : n ∈ l.ins <;> simp [q]
      rw [efil]
      by_cases hni : n ∈ l.ins
      · rw [decide_eq_true hni, if_pos hni, List.append_nil]
        exact iteF ⟨k2, hd2⟩
      · rw [decide_eq_false hni, if_neg hni]
        have hle : ((((l.ins ++ writ l.rs).take i).filter fun n => decide (n ∉ l.ins)).map fun n => (n, u.bitOf n)).length ≤ 1000 := by
          rw [List.length_map]
          have h1 := List.length_filter_le (fun n => decide (n ∉ l.ins)) ((l.ins ++ writ l.rs).take i)
          rw [List.length_take, List.length_append] at h1
          omega
        have hnew : n ∉ keysL ((((l.ins ++ writ l.rs).take i).filter fun n => decide (n ∉ l.ins)).map fun n => (n, u.bitOf n)) := fun hm => by
          obtain ⟨q, hq, e⟩ := List.mem_map.mp hm
          obtain ⟨z, hz, rfl⟩ := List.mem_map.mp hq
          have hz := (List.mem_filter.mp hz).1
          have hsp : (l.ins ++ writ l.rs).take i ++ (l.ins ++ writ l.rs).drop i = l.ins ++ writ l.rs := List.take_append_drop i _
          obtain ⟨hi', hg⟩ := List.getElem?_eq_some_iff.mp hin
          rw [← hsp, List.nodup_append] at hn
          exact hn.2.2 z hz n (by rw [List.drop_eq_getElem_cons hi', hg]; exact List.mem_cons_self) e
        refine iteT ⟨_, rfl, st, _, 0, .ref b, rfl, rfl, SqT.of st2, atI_int (by decide) rfl, _, rfl, b, .bl v, rfl, .inl ⟨_, .inr n, .inr ⟨od, k2 _ _ hf db.symm⟩, rfl, by rw [dL_get, hv]; rfl⟩, _, rfl, _, rfl, d, _, rfl, DPut.k (k := .inr n) hd2 (by rw [dL_len, sizeLine_eq]; omega), _, rfl, k2.trans But.upd, ?_⟩
        rw [upd_same, dL_put, keys_new hnew, ev, List.map_append]
        rfl
    rintro σ H2 ⟨v4, rfl, k2, hd2⟩
    have eall : (((l.ins ++ writ l.rs).take (dL V.bl u.bits).length).filter fun n => decide (n ∉ l.ins)) = writ l.rs := by
      rw [dL_len, List.take_of_length_le (by rw [List.length_append]; omega), List.filter_append]
      have e1 : l.ins.filter (fun n => decide (n ∉ l.ins)) = [] := by
        rw [List.filter_eq_nil_iff]
        intro n hn
        simp [hn]
      have e2 : (writ l.rs).filter (fun n => decide (n ∉ l.ins)) = writ l.rs := by
        rw [List.filter_eq_self]
        intro n hn
        exact decide_eq_true fun h => f6 n h hn
      rw [e1, e2, List.nil_append]
    rw [eall] at hd2
    have hb2 := k2 _ _ hf db.symm
    refine ⟨hb2, ?_⟩
    have k12 : But d H1 (upd H2 b (.dK (dL V.bl u.bits))) := fun o v e n => by
      by_cases hb : o = b
      · subst hb
        rw [ts1.hb] at e
        cases e
        exact upd_same
      · rw [upd_ne hb]
        exact k2 _ _ (by rw [← hHf, upd_ne hb]; exact e) n
    have hd3 : upd H2 b (.dK (dL V.bl u.bits)) d = some (.dK (dL V.bl (wbits l u))) := by rw [upd_ne db]; exact hd2
    generalize upd H2 b (.dK (dL V.bl u.bits)) = H3 at k12 hd3 ⊢
    have s03 : Same H H3 := fun o v e => k12 _ _ (s1 _ _ e) (ne_of_none e nd)
    have ts3 := ts.keep s03
    have tk3 := tk.keep s03
    dsimp only
    refine ⟨_, rfl, _, rfl, _, rfl, st, _, 1, .ref c, rfl, rfl, SqT.of (s03 _ _ hst), atI_int (by decide) rfl, _, rfl, st, _, 2, .ref s, rfl, rfl, SqT.of (s03 _ _ hst), atI_int (by decide) rfl, line_ge (by simp), fun t nt => ?_⟩
    have s4 := Same.new (o := .tup [.ref d, .ref c, .ref s]) nt
    have kd : b' ≠ d := ne_of_none tk.hb nd
    have good : ∀ {l' : List (Str × Bool)}, (keysL l').Nodup → ∀ r ∈ dL V.bl l', valV (dL V.bl l') r.1 = some r.2 ∧ flatB r.2 = true := fun h r hr => by
      have := (good_vals h) r hr
      exact ⟨this, by obtain ⟨q, _, rfl⟩ := List.mem_map.mp hr; rfl⟩
    have goodI : ∀ {l' : List (Str × Int)}, (keysL l').Nodup → ∀ r ∈ dL V.int l', valV (dL V.int l') r.1 = some r.2 ∧ flatB r.2 = true := fun h r hr => by
      have := (good_vals h) r hr
      exact ⟨this, by obtain ⟨q, _, rfl⟩ := List.mem_map.mp hr; rfl⟩
    refine ⟨kt, t, rfl, rfl, ⟨ne_of_none (s03 _ _ hkt) nt, [b', c', s'], [d, c, s], s4 _ _ (s03 _ _ hkt), upd_same, rfl, ?_⟩, k _ (s03.trans s4)⟩
    intro i p q hp hq
    rcases i with _ | _ | _ | i
    · cases hp
      cases hq
      exact ⟨kd, _, _, s4 _ _ tk3.hb, s4 _ _ hd3, rfl, good (by rw [show (keptW l u).bits = wbits l u from rfl, wbits_keys]; exact writ_nodup _)⟩
    · cases hp
      cases hq
      exact ⟨ap.2.1.2.1, _, _, s4 _ _ tk3.hc, s4 _ _ ts3.hc, rfl, goodI (by rw [show (keptW l u).cnt = u.cnt from rfl, hfit.kc]; exact cnt0_nodup _)⟩
    · cases hp
      cases hq
      exact ⟨ap.2.2.2.2, _, _, s4 _ _ tk3.hs, s4 _ _ ts3.hs, rfl, good (by rw [show (keptW l u).seen = u.seen from rfl, hfit.ks]; exact seen0_nodup _)⟩
    · cases hp
def spRefB (K : PySem.W.Frag) (cs : Cs) (cw : Addr) : Sp := fun vs H Q _ => ∃ (x dx r b c s : Addr) (lv : V) (l : Lad) (u : Ws) (row : List Bool) (cell : Int), vs = [.ref x, .ref r, .int cell] ∧ H x = some (.ins cw dx (wkF lv b c s)) ∧ IsL K cs H lv l ∧ Tri H b c s u ∧ Fits l u ∧ l.fair = true ∧ (∀ g ∈ l.rs, g.c.size ≤ 60 ∧ g.c.depth ≤ 20) ∧
  SqT K H r (row.map V.bl) ∧ row.length = l.ins.length ∧ ∀ H', Same H H' → Q (.bl true) H'
theorem ok_refB (T : T24 K mg cs cc xc cw) : FnAt P w K mg base CX0 "_law_refused" 23 ["_law_works", "_law_row_here", "_law_cell"] (spRefB K cs cw) := by
  have G__law_mixed : FnAt P w K mg base CX0 "_law_mixed" 1 _ spMixed := ok_mixed T.row.cells
  have GX_scan := disp_scan (P := P) (w := w) (base := base) T.sc
  have e_NoRow := T.sc.wk.lad.exs.e_row
  refine fnAt_ok T.d_refused sc__law_refused (fun vs H Q E h => ?_) (fun f cdv A outer st H vs Q E hr h => ?_)
  · obtain ⟨x, dx, r, b, c, s, lv, l, u, row, cell, rfl, _⟩ := h; rfl
  · obtain ⟨x, dx, r, b, c, s, lv, l, u, row, cell, rfl, hx, hl, ht, hfit, hfair, hsz, hrow, hrl, k⟩ := h
    have hu := hu_of hr
    obtain ⟨f1, f2, f3, f4, f5, f6, f7, f8, f9⟩ := (fair_iff l).mp hfair
    refine ⟨_, (pss_cons (ps_set (i := 3) sc__law_refused.nd rfl (by first | exact Or.inl rfl | exact Or.inr rfl) (pe_callTy call_list_of (by rfl) T.z_list (show PySem.bootBuiltins "list" = some (.type "list") by decide +kernel) (pa_cons (pv 1) pa_nil)))
        (C8.pss_cut (ps_if (PW.pt (pw_or (pt_cmpR (op_eqE hr.units0) (pv 3) (pe_lst pa_nil) (nomark _)) (pw_or1 (pt_cmpR op_eq (pe_op op_mod (pv 2) pe_int) pe_int (nomark _))))) (pss_one (ps_expr (pe_bm PySem.F.plainAttrs_list PySem.F.slot_list_append PySem.F.type_list_append mt_append (pv 3) (pa_cons pe_bl pa_nil)))) (pss_one (ps_if (pt_cmpR op_eq (pe_op op_mod (pv 2) pe_int) pe_int (nomark _)) (pss_one (ps_asg (pe_ix ix_list (pe_lst (pa_cons pe_int (pa_cons pe_int (pa_cons pe_non (pa_cons pe_str pa_nil))))) (pe_op op_mod (pe_op op_fdiv (pv 2) pe_int) pe_int) (fun _ _ => rfl)) (pg_sub (pv 3) (pe_op op_mod (pe_op op_fdiv (pe_callF G__law_mixed hr pass0 (pa_cons (pv 2) (pa_cons pe_int pa_nil))) pe_int) (pe_callB call_len_seq (by rfl) T.z_len PySem.boot_len (pa_cons (pv 3) pa_nil))) set_list))) (pss_one (ps_set (i := 3) sc__law_refused.nd rfl (by first | exact Or.inl rfl | exact Or.inr rfl) (pe_slice sl_list (pv 3) po_none (po_some (pe_op op_sub (pe_op op_sub (pe_callB call_len_seq (by rfl) T.z_len PySem.boot_len (pa_cons (pv 3) pa_nil)) pe_int) (pe_op op_mul (pe_op op_mod (pe_op op_fdiv (pv 2) pe_int) pe_int) (pe_op op_sub (pe_callB call_len_seq (by rfl) T.z_len PySem.boot_len (pa_cons (pv 3) pa_nil)) pe_int))))))))))
        (pss_cons (ps_try_only rfl rfl ⟨rfl, by decide, .inl e_NoRow.gP⟩ takesN (fun W pn xe tk _ => (pss_one (ps_expr (pe_methT GX_scan hr tk (pv 0) (pa_cons (pv 3) pa_nil))))) (fun a oe cls d pn _ _ => (pss_one (ps_ret pe_bl))))
        (pss_one (ps_ret pe_bl))))), ?_⟩
    walk_at "rd"
    refine ⟨_, .inr hrow, fun p np => ?_⟩
    have s1 := Same.new (o := .lst (row.map V.bl)) np
    have hp : upd H p (.lst (row.map V.bl)) p = some (.lst (row.map V.bl)) := upd_same
    show C8.tCut _ _ _ _ (upd H p (.lst (row.map V.bl)))
    generalize upd H p (.lst (row.map V.bl)) = H1 at s1 hp ⊢
    refine ⟨fun σ' H' => ∃ (h2 : Addr) (ws : List V), σ' = [some (.ref x), some (.ref r), some (.int cell), some (.ref h2)] ∧ Same H H' ∧ H' h2 = some (.lst ws) ∧ ws.all flatV = true ∧ ¬ (ws.length = l.ins.length ∧ ∀ v ∈ ws, isBlV v = true), ?_, ?_⟩
    · walk_at "rd"
      refine ⟨Nat.zero_le _, fun p1 np1 => ⟨p, p1, _, rfl, rfl, SqL.of (Same.new np1 _ _ hp), SqL.of upd_same, ?_⟩⟩
      have s2 := s1.trans (Same.new (o := .lst []) np1)
      have hp2 := Same.new (o := .lst []) np1 _ _ hp
      generalize upd H1 p1 (.lst []) = H2 at s2 hp2 ⊢
      have app : tBM K "list" rAppend (tVar 3) (tCons (tC (V.bl true)) tNil) [some (V.ref x), some (V.ref r), some (V.int cell), some (V.ref p)] H2 fun _ H1 => Same H H1 ∧ ∃ ws : List V, H1 p = some (.lst ws) ∧ ws.all flatV = true ∧ ¬ (ws.length = l.ins.length ∧ ∀ v ∈ ws, isBlV v = true) := by
        unfold tBM
        walk_at "rd"
        refine ⟨.inl ⟨rfl, _, SqL.of hp2⟩, p, _, _, rfl, rfl, hp2, by rw [List.length_map, sizeLine_eq]; omega, Same.mut s2 np, _, upd_same, by rw [List.all_append, bl_flat]; rfl, fun h => ?_⟩
        have h1 := h.1
        simp at h1
        omega
      cases row with
      | nil => exact ⟨true, rfl, iteT app⟩
      | cons b0 rest =>
        refine ⟨false, rfl, iteF ?_⟩
        by_cases h0 : cell % 3 = 0
        · rw [decide_eq_true h0]
          exact iteT app
        · rw [decide_eq_false h0]
          refine iteF ?_
          by_cases h1 : cell % 3 = 1
          · rw [decide_eq_true h1]
            refine iteT ⟨line_ge (by simp), fun p3 np3 => ?_⟩
            have s3 := s2.trans (Same.new (o := .lst [V.int 0, V.int 1, V.non, V.str (Str.ofString "on")]) np3)
            have hp3 := Same.new (o := .lst [V.int 0, V.int 1, V.non, V.str (Str.ofString "on")]) np3 _ _ hp2
            have hq : cell / 3 % 4 = 0 ∨ cell / 3 % 4 = 1 ∨ cell / 3 % 4 = 2 ∨ cell / 3 % 4 = 3 := by omega
            have hv : ∃ v, atI [V.int 0, V.int 1, V.non, V.str (Str.ofString "on")] (cell / 3 % 4) = some v ∧ flatV v = true ∧ isBlV v = false := by
              rcases hq with h | h | h | h <;> rw [h]
              · exact ⟨_, atI_int (by decide) rfl, rfl, rfl⟩
              · exact ⟨_, atI_int (by decide) rfl, rfl, rfl⟩
              · exact ⟨_, atI_int (by decide) rfl, rfl, rfl⟩
              · exact ⟨_, atI_int (by decide) rfl, rfl, rfl⟩
            obtain ⟨v, hat, fv, bv⟩ := hv
            refine ⟨p3, _, _, v, rfl, rfl, SqL.of upd_same, hat, ?_⟩
            generalize upd H2 p3 (.lst [V.int 0, V.int 1, V.non, V.str (Str.ofString "on")]) = H3 at s3 hp3 ⊢
            have hpos : (0 : Int) < (((b0 :: rest).map V.bl).length : Int) := by rw [List.length_map, List.length_cons]; omega
            have b0' := Int.emod_nonneg (mixed cell 70 / 3) (show ((((b0 :: rest).map V.bl).length : Nat) : Int) ≠ 0 by omega)
            have b1' := Int.emod_lt_of_pos (mixed cell 70 / 3) hpos
            obtain ⟨g, hg, hgl⟩ : ∃ g : Nat, mixed cell 70 / 3 % (((b0 :: rest).map V.bl).length : Int) = (g : Int) ∧ g < ((b0 :: rest).map V.bl).length := ⟨(mixed cell 70 / 3 % (((b0 :: rest).map V.bl).length : Int)).toNat, by omega, by omega⟩
            refine ⟨_, rfl, ?_⟩
            walk_at "rd"
            refine ⟨_, _, rfl, _, rfl, _, .inl (SqL.of hp3), hpos, ?_⟩
            rw [hg]
            refine ⟨p, _, _, g, rfl, rfl, hp3, ixN_at hgl, Same.mut s3 np, _, upd_same, ?_, fun h => ?_⟩
            · rw [List.all_eq_true]
              intro y hy
              rcases List.mem_or_eq_of_mem_set hy with hy | rfl
              · exact List.all_eq_true.mp (bl_flat (b0 :: rest)) y hy
              · exact fv
            · have := h.2 v (List.mem_set hgl v)
              exact absurd (show isBlV v = true from this) (by rw [bv]; exact Bool.false_ne_true)
          · rw [decide_eq_false h1]
            refine iteF ?_
            have hc : cell / 3 % 2 = 0 ∨ cell / 3 % 2 = 1 := by omega
            refine ⟨_, .inl (SqL.of hp2), _, .inl (SqL.of hp2), .inl ⟨by omega, by omega⟩, ?_⟩
            rw [List.length_map, List.length_cons]
            have he : ∃ g : Nat, (((rest.length + 1 : Nat) : Int) - 1 - cell / 3 % 2 * (((rest.length + 1 : Nat) : Int) - 1)) = (g : Int) ∧ g < rest.length + 1 := by
              rcases hc with h | h <;> rw [h]
              · exact ⟨rest.length, by omega, by omega⟩
              · exact ⟨0, by omega, by omega⟩
            obtain ⟨g, hg, hgl⟩ := he
            rw [hg]
            refine slL_to g rfl (SqL.of hp2) fun p3 np3 => ⟨p3, rfl, s2.trans (Same.new np3), _, upd_same, ?_, fun h => ?_⟩
            · rw [List.all_eq_true]
              intro y hy
              exact List.all_eq_true.mp (bl_flat (b0 :: rest)) y (List.mem_of_mem_take hy)
            · have h1 := h.1
              rw [List.length_take, List.length_map, List.length_cons] at h1
              rw [List.length_cons] at hrl
              omega
    rintro σ2 H2 ⟨h2, ws, rfl, s2, hh2, hf2, hbad⟩
    walk_at "rd"
    refine ⟨_, rfl, x, cw, dx, _, rfl, s2 _ _ hx, rfl, lkWn (by decide +kernel), _, rfl, x, dx, h2, b, c, s, lv, l, u, ws, rfl, s2 _ _ hx, hl.mono (Same.imm s2), ht.keep s2, hfit, hfair, hsz, .inl (SqL.of hh2), hf2, fun row3 e3 hl3 => ?_, fun _ => ⟨true, e_NoRow.self, fun _ a ha => k _ s2, fun q => nomatch q⟩⟩
    exact absurd ⟨by rw [e3, List.length_map]; exact hl3, by rw [e3]; exact bl_isBl⟩ hbad
end

--%% N20
/-! ## two works, two states, and what is held -/
abbrev s__law_look : Stmt := top 71
theorem sc__law_look : FnScope ["_law_works", "_law_drawn_here", "_law_state", "_law_cell", "_law_due", "_law_name"] ["_law_works", "_law_drawn_here", "_law_state", "_law_cell"] (defScope s__law_look) := ⟨rfl, rfl, rfl, by decide +kernel, rfl, by decide +kernel, by decide +kernel⟩
abbrev s__law_deed : Stmt := top 72
theorem sc__law_deed : FnScope ["_law_works", "_law_states", "_law_at", "_law_drawn_here", "_law_cell", "_law_held", "_law_row_here", "_law_way", "_law_found", "_law_stored", "_law_state", "_law_copied_here", "_law_one", "_law_name", "_law_due", "_law_handed"] ["_law_works", "_law_states", "_law_at", "_law_drawn_here", "_law_cell", "_law_held"] (defScope s__law_deed) := ⟨rfl, rfl, rfl, by decide +kernel, rfl, by decide +kernel, by decide +kernel⟩
abbrev s_law : Stmt := top 73
theorem sc_law : FnScope ["_law_script", "_law_drawn_here", "_law_ladder", "_law_works", "_law_states", "_law_held", "_law_first", "_law_k", "_law_cell", "_law_at", "_law_stored", "_law_state"] ["_law_script"] (defScope s_law) := ⟨rfl, rfl, rfl, by decide +kernel, rfl, by decide +kernel, by decide +kernel⟩
structure Txt (K : PySem.W.Frag) (mg : Str → Option Value) (cs : Cs) (cc : Addr) (xc : Xc) (cw : Addr) : Prop where
  law : LawAt K mg s_law "_law_script"
  draw : TDraw K mg
  made : TMade K mg cs cc xc
  st : TLSt K mg
  own : T24 K mg cs cc xc cw
  d_look : DefAt K mg "_law_look" s__law_look ["_law_works", "_law_drawn_here", "_law_state", "_law_cell"]
  d_deed : DefAt K mg "_law_deed" s__law_deed ["_law_works", "_law_states", "_law_at", "_law_drawn_here", "_law_cell", "_law_held"]
  z_len : mg "len" = none
  z_range : mg "range" = none
  z_list : mg "list" = none
  z_tuple : mg "tuple" = none
theorem putAll_ins {l : Lad} {e : Ws} (hf : l.fair = true) (f : Fits l e) : putAll e.bits (l.ins.map fun n => (n, false)) = (l.ins.map fun n => (n, false)) ++ wbits l e := by
  have h := row_bits (row := l.ins.map fun _ => false) hf f (by rw [List.length_map])
  have z : ∀ ns : List Str, ns.zip (ns.map fun _ => false) = ns.map fun n => (n, false) := fun ns => by
    induction ns with
    | nil => rfl
    | cons n ns ih => rw [List.map_cons, List.zip_cons_cons, ih, List.map_cons]
  rw [z] at h
  exact h
abbrev T3 : Type := Addr × Addr × Addr
def ApT (p q : T3) : Prop := Ap3 p.1 p.2.1 p.2.2 q.1 q.2.1 q.2.2
def TriT (H : Hp) (p : T3) (u : Ws) : Prop := Tri H p.1 p.2.1 p.2.2 u
def ButT (p : T3) (H H' : Hp) : Prop := But3 p.1 p.2.1 p.2.2 H H'
def NonT (H : Hp) (p : T3) : Prop := H p.1 = none ∧ H p.2.1 = none ∧ H p.2.2 = none
def refsT (p : T3) : List V := [.ref p.1, .ref p.2.1, .ref p.2.2]
def InT (a : Addr) (p : T3) : Prop := a = p.1 ∨ a = p.2.1 ∨ a = p.2.2
theorem ApT.symm {p q : T3} (h : ApT p q) : ApT q p := Ap3.symm h
theorem ApT.of {H : Hp} {p q : T3} {u : Ws} (t : TriT H p u) (n : NonT H q) : ApT p q := t.ap n.1 n.2.1 n.2.2
theorem TriT.keep {H H' : Hp} {p : T3} {u : Ws} (t : TriT H p u) (s : Same H H') : TriT H' p u := Tri.keep t s
/-- all but some stays -/
def OffP (S : Addr → Prop) (H H' : Hp) : Prop := ∀ a o, H a = some o → ¬ S a → H' a = some o
theorem OffP.trans {S : Addr → Prop} {H H1 H2 : Hp} (a : OffP S H H1) (b : OffP S H1 H2) : OffP S H H2 := fun c o e n => b c o (a c o e n) n
theorem Same.off {S : Addr → Prop} {H H' : Hp} (s : Same H H') : OffP S H H' := fun a o e _ => s a o e
theorem ButT.off {S : Addr → Prop} {p : T3} {H H' : Hp} (k : ButT p H H') (h : ∀ a, InT a p → S a) : OffP S H H' := fun a o e n => k a o e (fun q => n (h a (.inl q))) (fun q => n (h a (.inr (.inl q)))) (fun q => n (h a (.inr (.inr q))))
theorem OffP.upd {S : Addr → Prop} {H : Hp} {a : Addr} {o : HO} (h : S a) : OffP S H (upd H a o) := fun b u e n => by
  rw [upd_ne (fun q => n (by rw [q]; exact h))]
  exact e
theorem TriT.off {S : Addr → Prop} {H H' : Hp} {p : T3} {u : Ws} (t : TriT H p u) (k : OffP S H H') (n : ∀ a, InT a p → ¬ S a) : TriT H' p u :=
  ⟨k _ _ t.hb (n _ (.inl rfl)), k _ _ t.hc (n _ (.inr (.inl rfl))), k _ _ t.hs (n _ (.inr (.inr rfl))), t.bc, t.bs, t.cs⟩
theorem ApT.no {p q : T3} (h : ApT p q) : ∀ a, InT a p → ¬ InT a q := by
  obtain ⟨⟨h1, h2, h3⟩, ⟨h4, h5, h6⟩, h7, h8, h9⟩ := h
  rintro a (rfl | rfl | rfl) (e | e | e) <;> contradiction
/-- an entry: what is kept of works, and the law's state beside it -/
def EntR (H : Hp) (W S : Nat → T3) (l : Lad) (v : V) (e : Ws) : Prop := ∃ (h kt st : Addr) (A B : T3), v = .ref h ∧ H h = some (.tup [.ref kt, .ref st]) ∧ H kt = some (.tup (refsT A)) ∧ H st = some (.tup (refsT B)) ∧ TriT H A (keptW l e) ∧ TriT H B e ∧ Fits l e ∧ ApT A B ∧
  ∀ k < 2, ApT A (W k) ∧ ApT A (S k) ∧ ApT B (W k) ∧ ApT B (S k)
structure Gk (cw : Addr) (H0 H : Hp) (pw ps ph xl : Addr) (l : Lad) (x dx : Nat → Addr) (W S : Nat → T3) (t : Nat → Addr) (u : Nat → Ws) (hs : List V) (es : List Ws) : Prop where
  same : Same H0 H
  npw : H0 pw = none
  nps : H0 ps = none
  nph : H0 ph = none
  d1 : pw ≠ ps
  d2 : pw ≠ ph
  d3 : ps ≠ ph
  hpw : H pw = some (.lst [.ref (x 0), .ref (x 1)])
  hps : H ps = some (.lst [.ref (t 0), .ref (t 1)])
  hph : H ph = some (.lst hs)
  hx : ∀ k < 2, H (x k) = some (.ins cw (dx k) (wkF (.ref xl) (W k).1 (W k).2.1 (W k).2.2))
  tw : ∀ k < 2, TriT H (W k) (u k)
  ts : ∀ k < 2, TriT H (S k) (u k)
  ht : ∀ k < 2, H (t k) = some (.tup (refsT (S k)))
  fit : ∀ k < 2, Fits l (u k)
  nW : ∀ k < 2, NonT H0 (W k)
  nS : ∀ k < 2, NonT H0 (S k)
  ww : ApT (W 0) (W 1)
  ws : ∀ j < 2, ∀ k < 2, ApT (W j) (S k)
  ss : ApT (S 0) (S 1)
  ents : Two (EntR H W S l) hs es
def fset {α : Type} (f : Nat → α) (i : Nat) (v : α) : Nat → α := fun k => if k = i then v else f k
theorem fset_at {α : Type} {f : Nat → α} {i : Nat} {v : α} : fset f i v i = v := if_pos rfl
theorem fset_ne {α : Type} {f : Nat → α} {i k : Nat} {v : α} (h : k ≠ i) : fset f i v k = f k := if_neg h
section
variable {cw : Addr} {H0 H H2 : Hp} {pw ps ph xl : Addr} {l : Lad} {x dx : Nat → Addr} {W S : Nat → T3} {t : Nat → Addr} {u : Nat → Ws} {hs : List V} {es : List Ws}
theorem Gk.keep (G : Gk cw H0 H pw ps ph xl l x dx W S t u hs es) (s : Same H H2) : Gk cw H0 H2 pw ps ph xl l x dx W S t u hs es :=
  { G with
    same := G.same.trans s, hpw := s _ _ G.hpw, hps := s _ _ G.hps, hph := s _ _ G.hph, hx := fun k hk => s _ _ (G.hx k hk), tw := fun k hk => (G.tw k hk).keep s, ts := fun k hk => (G.ts k hk).keep s, ht := fun k hk => s _ _ (G.ht k hk)
    ents := G.ents.mono fun v e ⟨h, kt, st, A, B, e1, h1, h2, h3, h4, h5, h6, h7, h8⟩ => ⟨h, kt, st, A, B, e1, s _ _ h1, s _ _ h2, s _ _ h3, h4.keep s, h5.keep s, h6, h7, h8⟩ }
theorem Gk.sep (G : Gk cw H0 H pw ps ph xl l x dx W S t u hs es) {i j : Nat} (hi : i < 2) (hj : j < 2) (n : j ≠ i) : ApT (W j) (W i) ∧ ApT (S j) (S i) := by
  have h : (i = 0 ∧ j = 1) ∨ (i = 1 ∧ j = 0) := by omega
  rcases h with ⟨rfl, rfl⟩ | ⟨rfl, rfl⟩
  · exact ⟨G.ww.symm, G.ss.symm⟩
  · exact ⟨G.ww, G.ss⟩
/-- what holds no dict and is not the list of states is not touched -/
theorem Gk.notS (G : Gk cw H0 H pw ps ph xl l x dx W S t u hs es) {i : Nat} (hi : i < 2) {a : Addr} {o : HO} (h : H a = some o) (nd : ∀ kvs, o ≠ .dK kvs) (np : a ≠ ps) : ¬ (InT a (W i) ∨ InT a (S i) ∨ a = ps) := by
  rintro (q | q | q)
  · rcases q with rfl | rfl | rfl
    · rw [(G.tw i hi).hb] at h; cases h; exact nd _ rfl
    · rw [(G.tw i hi).hc] at h; cases h; exact nd _ rfl
    · rw [(G.tw i hi).hs] at h; cases h; exact nd _ rfl
  · rcases q with rfl | rfl | rfl
    · rw [(G.ts i hi).hb] at h; cases h; exact nd _ rfl
    · rw [(G.ts i hi).hc] at h; cases h; exact nd _ rfl
    · rw [(G.ts i hi).hs] at h; cases h; exact nd _ rfl
  · exact np q
/-- works i, and its state, go on -/
theorem Gk.move (G : Gk cw H0 H pw ps ph xl l x dx W S t u hs es) {i : Nat} (hi : i < 2) (S1 : T3) (t1 : Addr) (u1 : Ws) (off : OffP (fun a => InT a (W i) ∨ InT a (S i) ∨ a = ps) H H2) (hps : H2 ps = some (.lst [.ref (fset t i t1 0), .ref (fset t i t1 1)]))
    (tw : TriT H2 (W i) u1) (ts : TriT H2 S1 u1) (ht : H2 t1 = some (.tup (refsT S1))) (fit : Fits l u1) (new : S1 = S i ∨ NonT H S1) : Gk cw H0 H2 pw ps ph xl l x dx W (fset S i S1) (fset t i t1) (fset u i u1) hs es := by
  have nold : ∀ {a : Addr}, H0 a ≠ none → ¬ (InT a (W i) ∨ InT a (S i) ∨ a = ps) := by
    rintro a h (q | q | rfl)
    · rcases q with rfl | rfl | rfl
      · exact h (G.nW i hi).1
      · exact h (G.nW i hi).2.1
      · exact h (G.nW i hi).2.2
    · rcases q with rfl | rfl | rfl
      · exact h (G.nS i hi).1
      · exact h (G.nS i hi).2.1
      · exact h (G.nS i hi).2.2
    · exact h G.nps
  have nT : ∀ {p : T3} {v : Ws}, TriT H p v → ApT p (W i) → ApT p (S i) → TriT H2 p v := fun {p v} tp a1 a2 => tp.off off fun a ha q => by
    rcases q with q | q | q
    · exact a1.no a ha q
    · exact a2.no a ha q
    · subst q
      have h := G.hps
      rcases ha with e | e | e
      · rw [e, tp.hb] at h; cases h
      · rw [e, tp.hc] at h; cases h
      · rw [e, tp.hs] at h; cases h
  have apS : ∀ {p : T3} {v : Ws}, TriT H p v → (∀ k < 2, ApT p (S k)) → ∀ k < 2, ApT p (fset S i S1 k) := fun {p v} tp h k hk => by
    by_cases e : k = i
    · subst e
      rw [fset_at]
      rcases new with rfl | n
      · exact h k hk
      · exact ApT.of tp n
    · rw [fset_ne e]
      exact h k hk
  have non : NonT H0 S1 := by
    rcases new with rfl | n
    · exact G.nS i hi
    · exact ⟨G.same.free n.1, G.same.free n.2.1, G.same.free n.2.2⟩
  refine
    { same := fun a o e => off a o (G.same a o e) (nold (by rw [e]; exact fun q => by cases q)), npw := G.npw, nps := G.nps, nph := G.nph, d1 := G.d1, d2 := G.d2, d3 := G.d3
      hpw := off _ _ G.hpw (G.notS hi G.hpw (fun _ q => by cases q) G.d1), hps := hps, hph := off _ _ G.hph (G.notS hi G.hph (fun _ q => by cases q) G.d3.symm)
      hx := fun k hk => off _ _ (G.hx k hk) (G.notS hi (G.hx k hk) (fun _ q => by cases q) (fun e => by have := G.hps; rw [← e, G.hx k hk] at this; cases this))
      tw := fun k hk => ?_, ts := fun k hk => ?_, ht := fun k hk => ?_, fit := fun k hk => ?_, nW := G.nW, nS := fun k hk => ?_, ww := G.ww, ws := fun j hj => apS (G.tw j hj) (G.ws j hj), ss := ?_, ents := ?_ }
  · by_cases e : k = i
    · subst e
      rw [fset_at]
      exact tw
    · rw [fset_ne e]
      exact nT (G.tw k hk) (G.sep hi hk e).1 (G.ws k hk i hi)
  · by_cases e : k = i
    · subst e
      rw [fset_at, fset_at]
      exact ts
    · rw [fset_ne e, fset_ne e]
      exact nT (G.ts k hk) (G.ws i hi k hk).symm (G.sep hi hk e).2
  · by_cases e : k = i
    · subst e
      rw [fset_at, fset_at]
      exact ht
    · rw [fset_ne e, fset_ne e]
      exact off _ _ (G.ht k hk) (G.notS hi (G.ht k hk) (fun _ q => by cases q) (fun e => by have := G.hps; rw [← e, G.ht k hk] at this; cases this))
  · by_cases e : k = i
    · subst e
      rw [fset_at]
      exact fit
    · rw [fset_ne e]
      exact G.fit k hk
  · by_cases e : k = i
    · subst e
      rw [fset_at]
      exact non
    · rw [fset_ne e]
      exact G.nS k hk
  · have h0 : ∀ k < 2, k ≠ i → ApT (S k) S1 := fun k hk e => by
      rcases new with rfl | n
      · exact (G.sep hi hk e).2
      · exact ApT.of (G.ts k hk) n
    have h : i = 0 ∨ i = 1 := by omega
    rcases h with rfl | rfl
    · exact (h0 1 (by omega) (by omega)).symm
    · exact h0 0 (by omega) (by omega)
  · refine G.ents.mono fun v e ⟨h, kt, st, A, B, e1, h1, h2, h3, h4, h5, h6, h7, h8⟩ => ?_
    have np : ∀ {a : Addr} {vs : List V}, H a = some (.tup vs) → H2 a = some (.tup vs) := fun {a vs} q => off _ _ q (G.notS hi q (fun _ q => by cases q) (fun e => by have := G.hps; rw [← e, q] at this; cases this))
    exact ⟨h, kt, st, A, B, e1, np h1, np h2, np h3, nT h4 (h8 i hi).1 (h8 i hi).2.1, nT h5 (h8 i hi).2.2.1 (h8 i hi).2.2.2, h6, h7, fun k hk => ⟨(h8 k hk).1, apS h4 (fun k hk => (h8 k hk).2.1) k hk, (h8 k hk).2.2.1, apS h5 (fun k hk => (h8 k hk).2.2.2) k hk⟩⟩
/-- one more is held -/
theorem Gk.rebase (G : Gk cw H0 H pw ps ph xl l x dx W S t u [] []) (s : Same H H2) {q : Addr} {o : HO} (nq : H q = none) (hq : H2 q = some o) : ∃ HB, Same H0 HB ∧ Same HB H2 ∧ HB q = some o ∧ Gk cw HB H2 pw ps ph xl l x dx W S t u [] [] := by
  refine ⟨fun a => match H a with | none => H2 a | some _ => H0 a, fun a o e => ?_, fun a o e => ?_, ?_, ?_⟩
  · show (match H a with | none => H2 a | some _ => H0 a) = some o
    rw [G.same _ _ e]
    exact e
  · have e' : (match H a with | none => H2 a | some _ => H0 a) = some o := e
    cases h : H a with
    | none => rw [h] at e'; exact e'
    | some o2 => rw [h] at e'; exact s _ _ (G.same _ _ e')
  · show (match H q with | none => H2 q | some _ => H0 q) = some o
    rw [nq]
    exact hq
  · have no : ∀ {a : Addr} {o : HO}, H a = some o → H0 a = none → (match H a with | none => H2 a | some _ => H0 a) = none := fun e n => by
      rw [e]
      exact n
    have G2 := G.keep s
    exact { G2 with
      same := fun a o e => by
        have e' : (match H a with | none => H2 a | some _ => H0 a) = some o := e
        cases h : H a with
        | none => rw [h] at e'; exact e'
        | some o2 => rw [h] at e'; exact s _ _ (G.same _ _ e')
      npw := no G.hpw G.npw, nps := no G.hps G.nps, nph := no G.hph G.nph,
      nW := fun k hk => ⟨no (G.tw k hk).hb (G.nW k hk).1, no (G.tw k hk).hc (G.nW k hk).2.1, no (G.tw k hk).hs (G.nW k hk).2.2⟩
      nS := fun k hk => ⟨no (G.ts k hk).hb (G.nS k hk).1, no (G.ts k hk).hc (G.nS k hk).2.1, no (G.ts k hk).hs (G.nS k hk).2.2⟩ }
theorem Gk.push (G : Gk cw H0 H pw ps ph xl l x dx W S t u hs es) {v : V} {e : Ws} (he : EntR H W S l v e) : Gk cw H0 (upd H ph (.lst (hs ++ [v]))) pw ps ph xl l x dx W S t u (hs ++ [v]) (es ++ [e]) := by
  have im : Imm (fun _ => True) H (upd H ph (.lst (hs ++ [v]))) := Imm.mut G.hph id
  have tk : ∀ {p : T3} {w : Ws}, TriT H p w → TriT (upd H ph (.lst (hs ++ [v]))) p w := fun {p w} q => Tri.off q (fun e => by have := q.hb; rw [← e, G.hph] at this; cases this) (fun e => by have := q.hc; rw [← e, G.hph] at this; cases this) (fun e => by have := q.hs; rw [← e, G.hph] at this; cases this)
  have ek : ∀ y e, EntR H W S l y e → EntR (upd H ph (.lst (hs ++ [v]))) W S l y e := fun y e ⟨h, kt, st, A, B, e1, h1, h2, h3, h4, h5, h6, h7, h8⟩ => ⟨h, kt, st, A, B, e1, im _ _ h1 trivial, im _ _ h2 trivial, im _ _ h3 trivial, tk h4, tk h5, h6, h7, h8⟩
  exact
    { G with
      same := Same.mut G.same G.nph, hpw := by rw [upd_ne G.d2]; exact G.hpw, hps := by rw [upd_ne G.d3]; exact G.hps, hph := upd_same, hx := fun k hk => im _ _ (G.hx k hk) trivial, tw := fun k hk => tk (G.tw k hk), ts := fun k hk => tk (G.ts k hk), ht := fun k hk => im _ _ (G.ht k hk) trivial
      ents := (G.ents.mono ek).app (.one (ek v e he)) }
end
section
variable {P : Program} {w : World} {K : PySem.W.Frag} {mg : Str → Option Value} {cs : Cs} {cc : Addr} {xc : Xc} {cw : Addr} {base : Heap}
/-- a look: works x beside a state -/
def spLook (K : PySem.W.Frag) (cs : Cs) (cw : Addr) : Sp := fun vs H Q _ => ∃ (x dx bW cW sW bS cS sS st : Addr) (lv dv : V) (u : Ws) (l : Lad) (cell : Int), vs = [.ref x, dv, .ref st, .int cell] ∧ H x = some (.ins cw dx (wkF lv bW cW sW)) ∧ IsL K cs H lv l ∧ Tri H bW cW sW u ∧ IsDr K H dv l ∧ H st = some (.tup [.ref bS, .ref cS, .ref sS]) ∧ Tri H bS cS sS u ∧ Fits l u ∧ l.fair = true ∧
  (∀ n ∈ l.ins ++ writ l.rs, isName n = true) ∧ Ap3 bW cW sW bS cS sS ∧ ∀ H', Same H H' → Q (.bl true) H'
theorem ok_look (T : Txt K mg cs cc xc cw) : FnAt P w K mg base CX0 "_law_look" 5 ["_law_works", "_law_drawn_here", "_law_state", "_law_cell"] (spLook K cs cw) := by
  have G_kept := disp_kept (P := P) (w := w) (base := base) T.own.kept
  have G_answers := disp_answers (P := P) (w := w) (base := base) T.own.told.ask2
  have G__law_kept_right := ok_keptR (P := P) (w := w) (base := base) T.own
  have G__law_truths : FnAt P w K mg base CX0 "_law_truths" 1 _ (spTruthsB K) := ok_truthsB T.own.told.tr
  have G__law_as_told : FnAt P w K mg base CX0 "_law_as_told" 4 _ (spAsTold K cs cw) := ok_as_told T.own.told
  refine fnAt_ok T.d_look sc__law_look (fun vs H Q E h => ?_) (fun f cdv A outer st H vs Q E hr h => ?_)
  · obtain ⟨x, dx, bW, cW, sW, bS, cS, sS, st, lv, dv, u, l, cell, rfl, _⟩ := h; rfl
  · obtain ⟨x, dx, bW, cW, sW, bS, cS, sS, st, lv, dv, u, l, cell, rfl, hx, hl, tW, hd, hst, tS, hfit, hfair, hnm, ap, k⟩ := h
    have hu := hu_of hr
    obtain ⟨f1, f2, f3, f4, f5, f6, f7, f8, f9⟩ := (fair_iff l).mp hfair
    obtain ⟨a, ti, tt, p, ws, rfl, ha, h1, h2, h3, h4⟩ := id hd
    refine ⟨_, (C8.pss_cut (ps_if (PW.pt (pw_and (pt_cmpR op_eq (pe_op op_mod (pv 3) pe_int) pe_int (nomark _)) (pw_and1 (pt_not (pt_val (pe_callF G__law_kept_right hr pass0 (pa_cons (pv 1) (pa_cons (pe_methD0 G_kept hr pass0 (pv 0)) (pa_cons (pv 2) pa_nil))))))))) (pss_one (ps_ret pe_bl)) pss_nil)
        (pss_cons (ps_set (i := 4) sc__law_look.nd rfl (by first | exact Or.inl rfl | exact Or.inr rfl) (pe_callTy call_tuple_of (by rfl) T.z_tuple (show PySem.bootBuiltins "tuple" = some (.type "tuple") by decide +kernel) (pa_cons (pe_lc (own := [("_law_name", 5)]) (g := gName 5) (tt := tYes) rfl sc__law_look.nd (pi_tup (pe_ix ix_tup (pv 1) pe_int (fun _ _ => rfl))) (blkOk_by (own := [("_law_name", 5)]) (N := ["_law_works", "_law_drawn_here", "_law_state", "_law_cell", "_law_due", "_law_name"]) (sc := defScope s__law_look) (by decide +kernel)) (fun _ _ _ _ _ => pg_name (i := 5) sc__law_look.nd rfl (Or.inl rfl)) (fun _ _ _ _ _ => pts_nil) (fun _ _ _ _ _ => (pe_dget (by exact hu) (pe_ix (ix_tupK K rfl) (pv 2) pe_int (fun _ _ => rfl)) (pv 5) (fun _ _ => rfl)))) pa_nil)))
        (C8.pss_cut (ps_if (PW.pt (pw_and (pt_cmpR op_eq (pe_op op_mod (pv 3) pe_int) pe_int (nomark _)) (pw_and1 (pt_not (pt_val (pe_callF G__law_truths hr pass0 (pa_cons (pe_methD0 G_answers hr pass0 (pv 0)) (pa_cons (pv 4) pa_nil)))))))) (pss_one (ps_ret pe_bl)) pss_nil)
        (pss_one (ps_ret (pe_callF G__law_as_told hr pass0 (pa_cons (pv 0) (pa_cons (pv 1) (pa_cons (pv 2) pa_nil))))))))), ?_⟩
    walk_at "rd"
    refine ⟨fun σ' H' => σ' = [some (.ref x), some (.ref a), some (.ref st), some (.int cell), none, none] ∧ Same H H', ?_, ?_⟩
    · walk_at "rd"
      by_cases h0 : cell % 3 = 0
      · rw [decide_eq_true h0]
        refine iteT ⟨_, rfl, x, cw, dx, _, rfl, hx, rfl, lkWn (by decide +kernel), x, dx, bW, cW, sW, lv, u, l, rfl, hx, hl, tW, hfit, hfair, fun H1 kt b1 c1 s1 wd1 _ hkt => ?_⟩
        exact ⟨.ref a, kt, st, b1, c1, s1, bS, cS, sS, u, l, rfl, hd.mono (Same.noD wd1.same), hfair, hfit, hkt, wd1.tri, wd1.same _ _ hst, tS.keep wd1.same, (tS.ap wd1.nb wd1.nc wd1.ns).symm, fun H2 s2 => ⟨true, rfl, iteF (wd1.same.trans s2)⟩⟩
      · rw [decide_eq_false h0]
        exact iteF (Same.refl _)
    rintro σ1 H1 ⟨rfl, s1⟩
    walk_at "rd"
    have tS1 := tS.keep s1
    refine ⟨_, rfl, a, _, 1, .ref tt, rfl, rfl, SqT.of (s1 _ _ ha), atI_int (by decide) rfl, tt, rfl, ⟨_, (h2.mono (T := fun _ => False) (Same.imm s1)).seq⟩, fun D nD => lc_tup (K := K) (a := tt) (xs := l.outs.map V.str) (fun i H' => Same H1 H' ∧ H' D = some (.lst (((l.outs.map fun n => (getL u.bits n).getD false).map V.bl).take i))) ⟨Same.new nD, upd_same⟩ (fun i H' _ q => Same.seqT q.1 (h2.mono (T := fun _ => False) (Same.imm s1)).seq) ?_ ?_⟩
    · rintro i y H8 hy ⟨q1, q2⟩
      rw [List.getElem?_map] at hy
      obtain ⟨n, hn, rfl⟩ := Option.map_eq_some_iff.mp hy
      obtain ⟨v, hv⟩ := getL_mem.mpr (show n ∈ keysL u.bits by rw [hfit.kb]; exact List.mem_append_right _ (f7 n (List.mem_of_getElem? hn)))
      refine ⟨rfl, _, rfl, st, _, 0, .ref bS, rfl, rfl, SqT.of (q1 _ _ (s1 _ _ hst)), atI_int (by decide) rfl, _, rfl, bS, .bl v, rfl, .inl ⟨_, .inr n, .inl (q1 _ _ tS1.hb), rfl, by rw [dL_get, hv]; rfl⟩, ?_⟩
      exact lc_push q1 nD q2 (by rw [List.getElem?_map, List.getElem?_map, hn]; simp [hv]) (by rw [List.length_map, List.length_map]; omega)
    rintro H8 ⟨q1, q2⟩
    rw [List.length_map, List.take_of_length_le (by simp)] at q2
    refine ⟨D, rfl, _, .inl ⟨SqL.of q2, fun t2 nt2 => ?_⟩⟩
    have s8 := s1.trans (q1.trans (Same.new (o := .tup ((l.outs.map fun n => (getL u.bits n).getD false).map V.bl)) nt2))
    have ht2 : upd H8 t2 (.tup ((l.outs.map fun n => (getL u.bits n).getD false).map V.bl)) t2 = some (.tup ((l.outs.map fun n => (getL u.bits n).getD false).map V.bl)) := upd_same
    generalize upd H8 t2 (.tup ((l.outs.map fun n => (getL u.bits n).getD false).map V.bl)) = H9 at s8 ht2 ⊢
    refine ⟨fun σ' H' => σ' = [some (.ref x), some (.ref a), some (.ref st), some (.int cell), some (.ref t2), none] ∧ Same H H', ?_, ?_⟩
    · walk_at "rd"
      by_cases h0 : cell % 3 = 1
      · rw [decide_eq_true h0]
        refine iteT ⟨_, rfl, x, cw, dx, _, rfl, s8 _ _ hx, rfl, lkWn (by decide +kernel), x, dx, bW, cW, sW, lv, u, l, rfl, s8 _ _ hx, hl.mono (Same.imm s8), tW.keep s8, fun n hn => ?_, by omega, fun H10 t s10 nt ht => ?_⟩
        · rw [hfit.kb]
          exact List.mem_append_right _ (f7 n hn)
        exact ⟨t, t2, _, rfl, ht, SqT.of (s10 _ _ ht2), true, rfl, iteF (s8.trans s10)⟩
      · rw [decide_eq_false h0]
        exact iteF s8
    rintro σ10 H10 ⟨rfl, s10⟩
    walk_at "rd"
    exact ⟨x, dx, bW, cW, sW, bS, cS, sS, lv, .ref a, .ref st, u, l, rfl, s10 _ _ hx, hl.mono (Same.imm s10), tW.keep s10, hd.mono (Same.noD s10), ⟨st, rfl, s10 _ _ hst, tS.keep s10⟩, hfit, hfair, hnm, ap, fun H' s => k H' (s10.trans s)⟩
def spDeed (K : PySem.W.Frag) (cs : Cs) (cw : Addr) : Sp := fun vs H Q _ => ∃ (H0 : Hp) (pw ps ph xl : Addr) (i : Nat) (dv : V) (cell : Int) (l : Lad) (x dx : Nat → Addr) (W S : Nat → T3) (t : Nat → Addr) (u : Nat → Ws) (hs : List V) (es : List Ws), vs = [.ref pw, .ref ps, .int i, dv, .int cell, .ref ph] ∧ Gk cw H0 H pw ps ph xl l x dx W S t u hs es ∧ i < 2 ∧
  IsDr K H0 dv l ∧ IsL K cs H0 (.ref xl) l ∧ l.fair = true ∧ (∀ g ∈ l.rs, g.c.size ≤ 60 ∧ g.c.depth ≤ 20) ∧ (∀ n ∈ l.ins ++ writ l.rs, isName n = true) ∧ es.length ≤ 1000 ∧
  ∀ (H' : Hp) (S' : Nat → T3) (t' : Nat → Addr) (u' : Nat → Ws) (hs' : List V) (es' : List Ws), Gk cw H0 H' pw ps ph xl l x dx W S' t' u' hs' es' → es'.length ≤ es.length + 1 → Q (.bl true) H'
theorem at_two {f : Nat → V} {i : Nat} (hi : i < 2) : atI [f 0, f 1] (i : Int) = some (f i) := by
  have h : i = 0 ∨ i = 1 := by omega
  rcases h with rfl | rfl
  · exact atI_int (by decide) rfl
  · exact atI_int (by decide) rfl
theorem ok_deed (T : Txt K mg cs cc xc cw) : FnAt P w K mg base CX0 "_law_deed" 25 ["_law_works", "_law_states", "_law_at", "_law_drawn_here", "_law_cell", "_law_held"] (spDeed K cs cw) := by
  have G__law_mixed : FnAt P w K mg base CX0 "_law_mixed" 1 _ spMixed := ok_mixed T.own.row.cells
  have G__law_row : FnAt P w K mg base CX0 "_law_row" 2 _ spRowB := ok_rowB T.own.row
  have G_kept := disp_kept (P := P) (w := w) (base := base) T.own.kept
  have G_put_back := disp_back (P := P) (w := w) (base := base) T.own.kept
  have G_scan := (disp_scan (P := P) (w := w) (base := base) T.own.sc).calm
  have G__law_copied := ok_copied (P := P) (w := w) (base := base) T.own
  have G__law_kept_right := ok_keptR (P := P) (w := w) (base := base) T.own
  have G__law_refused := ok_refB (P := P) (w := w) (base := base) T.own
  have G__law_truths : FnAt P w K mg base CX0 "_law_truths" 1 _ (spTruthsB K) := ok_truthsB T.own.told.tr
  have G__law_as_told : FnAt P w K mg base CX0 "_law_as_told" 4 _ (spAsTold K cs cw) := ok_as_told T.own.told
  have G__law_scan : FnAt P w K mg base CX0 "_law_scan" 22 _ (spScanL K) := ok_scanL T.st
  refine fnAt_ok T.d_deed sc__law_deed (fun vs H Q E h => ?_) (fun f cdv A outer st H vs Q E hr h => ?_)
  · obtain ⟨H0, pw, ps, ph, xl, i, dv, cell, l, x, dx, W, S, t, u, hs, es, rfl, _⟩ := h; rfl
  · obtain ⟨H0, pw, ps, ph, xl, i, dv, cell, l, x, dx, W, S, t, u, hs, es, rfl, G, hi, hd0, hl0, hfair, hsz, hnm, hes, k⟩ := h
    have hu := hu_of hr
    obtain ⟨f1, f2, f3, f4, f5, f6, f7, f8, f9⟩ := (fair_iff l).mp hfair
    have hd := hd0.mono (Same.noD G.same)
    obtain ⟨a, ti, tt, p, ws, rfl, ha0, h10, h20, h30, h40⟩ := id hd0
    refine ⟨_, (pss_cons (ps_set (i := 6) sc__law_deed.nd rfl (by first | exact Or.inl rfl | exact Or.inr rfl) (pe_callF G__law_row hr pass0 (pa_cons (pe_op op_mod (pe_op op_fdiv (pe_callF G__law_mixed hr pass0 (pa_cons (pv 4) (pa_cons pe_int pa_nil))) pe_int) (pe_ix ix_list (pe_lst (pa_cons pe_int (pa_cons pe_int pa_nil))) (pe_op op_mod (pv 4) pe_int) (fun _ _ => rfl))) (pa_cons (pe_callB call_len_seq (by rfl) T.z_len PySem.boot_len (pa_cons (pe_ix ix_tup (pv 3) pe_int (fun _ _ => rfl)) pa_nil)) pa_nil))))
        (pss_cons (ps_set (i := 7) sc__law_deed.nd rfl (by first | exact Or.inl rfl | exact Or.inr rfl) (pe_op op_mod (pe_op op_fdiv (pe_callF G__law_mixed hr pass0 (pa_cons (pv 4) (pa_cons pe_int pa_nil))) pe_int) pe_int))
        (pss_cons (ps_if (pt_cmpR op_eq (pv 7) pe_int (nomark _)) (pss_cons (ps_set (i := 8) sc__law_deed.nd rfl (by first | exact Or.inl rfl | exact Or.inr rfl) (pe_methD0 G_kept hr pass0 (pe_ix ix_list (pv 0) (pv 2) (fun _ _ => rfl))))
          (pss_cons (ps_expr (pe_bm PySem.F.plainAttrs_list PySem.F.slot_list_append PySem.F.type_list_append mt_append (pv 5) (pa_cons (pe_tup (pa_cons (pv 8) (pa_cons (pe_callF G__law_copied hr pass0 (pa_cons (pe_ix ix_list (pv 1) (pv 2) (fun _ _ => rfl)) pa_nil)) pa_nil))) pa_nil)))
          (pss_one (ps_ret (pe_callF G__law_kept_right hr pass0 (pa_cons (pv 3) (pa_cons (pv 8) (pa_cons (pe_ix ix_list (pv 1) (pv 2) (fun _ _ => rfl)) pa_nil)))))))) pss_nil)
        (C8.pss_cut (ps_if (PW.pt (pw_and (pt_cmpR op_eq (pv 7) pe_int (nomark _)) (pw_and1 (pt_cmpR (op_neE hr.units0) (pv 5) (pe_lst pa_nil) (nomark _))))) (pss_cons (ps_asg (pe_ix ix_list (pv 5) (pe_op op_mod (pe_op op_fdiv (pe_callF G__law_mixed hr pass0 (pa_cons (pv 4) (pa_cons pe_int pa_nil))) pe_int) (pe_callB call_len_seq (by rfl) T.z_len PySem.boot_len (pa_cons (pv 5) pa_nil))) (fun _ _ => rfl)) (pg_tup rfl (pgs_cons (pg_name (i := 9) sc__law_deed.nd rfl (by first | exact Or.inl rfl | exact Or.inr rfl)) (pgs_cons (pg_name (i := 10) sc__law_deed.nd rfl (by first | exact Or.inl rfl | exact Or.inr rfl)) pgs_nil))))
          (pss_cons (ps_set (i := 11) sc__law_deed.nd rfl (by first | exact Or.inl rfl | exact Or.inr rfl) (pe_callF G__law_copied hr pass0 (pa_cons (pv 9) pa_nil)))
          (pss_cons (ps_if (PW.pt (pw_or (pt_cmpR op_notN (pe_methD G_put_back hr pass0 (pe_ix ix_list (pv 0) (pv 2) (fun _ _ => rfl)) (pa_cons (pv 11) pa_nil)) pe_non (nomark _)) (pw_or1 (pt_cmpR (op_neTD hu) (pv 11) (pe_callF G__law_copied hr pass0 (pa_cons (pv 9) pa_nil)) (nomark _))))) (pss_one (ps_ret pe_bl)) pss_nil)
          (pss_cons (ps_for PassesOwn.never rfl (pi_tup (pv 11)) (pg_name (i := 12) sc__law_deed.nd rfl (by first | exact Or.inl rfl | exact Or.inr rfl)) (pss_one (ps_expr (pe_dclear (pv 12)))))
          (pss_cons (ps_asg (pe_callF G__law_copied hr pass0 (pa_cons (pv 10) pa_nil)) (pg_sub (pv 1) (pv 2) set_list))
          (pss_cons (ps_for PassesOwn.never rfl (pi_tup (pe_ix ix_tup (pv 3) pe_int (fun _ _ => rfl))) (pg_name (i := 13) sc__law_deed.nd rfl (by first | exact Or.inl rfl | exact Or.inr rfl)) (pss_one (ps_dput hu (pe_ix ix_tup (pe_ix ix_list (pv 1) (pv 2) (fun _ _ => rfl)) pe_int (fun _ _ => rfl)) (pv 13) pe_bl rfl)))
          (pss_one (ps_ret pe_bl)))))))) pss_nil)
        (C8.pss_cut (ps_if (pt_cmpR op_eq (pv 7) pe_int (nomark _)) (pss_cons (ps_if (pt_not (pt_val (pe_callF G__law_refused hr pass0 (pa_cons (pe_ix ix_list (pv 0) (pv 2) (fun _ _ => rfl)) (pa_cons (pv 6) (pa_cons (pe_op op_fdiv (pe_callF G__law_mixed hr pass0 (pa_cons (pv 4) (pa_cons pe_int pa_nil))) pe_int) pa_nil)))))) (pss_one (ps_ret pe_bl)) pss_nil)
          (pss_one (ps_if (pt_not (pt_val (pe_callF G__law_as_told hr pass0 (pa_cons (pe_ix ix_list (pv 0) (pv 2) (fun _ _ => rfl)) (pa_cons (pv 3) (pa_cons (pe_ix ix_list (pv 1) (pv 2) (fun _ _ => rfl)) pa_nil)))))) (pss_one (ps_ret pe_bl)) pss_nil))) pss_nil)
        (pss_cons (ps_set (i := 14) sc__law_deed.nd rfl (by first | exact Or.inl rfl | exact Or.inr rfl) (pe_callF G__law_scan hr pass0 (pa_cons (pv 3) (pa_cons (pe_ix ix_list (pv 1) (pv 2) (fun _ _ => rfl)) (pa_cons (pv 6) pa_nil)))))
        (pss_cons (ps_set (i := 15) sc__law_deed.nd rfl (by first | exact Or.inl rfl | exact Or.inr rfl) (pe_callTy call_list_of (by rfl) T.z_list (show PySem.bootBuiltins "list" = some (.type "list") by decide +kernel) (pa_cons (pv 6) pa_nil)))
        (pss_cons (ps_set (i := 8) sc__law_deed.nd rfl (by first | exact Or.inl rfl | exact Or.inr rfl) (pe_methD G_scan hr pass0 (pe_ix ix_list (pv 0) (pv 2) (fun _ _ => rfl)) (pa_cons (pv 15) pa_nil)))
        (pss_cons (ps_expr (pe_bm0 PySem.F.plainAttrs_list PySem.F.slot_list_clear PySem.F.type_list_clear mt_clear (pv 15)))
        (pss_one (ps_ret (pe_callF G__law_truths hr pass0 (pa_cons (pv 8) (pa_cons (pv 14) pa_nil)))))))))))))), ?_⟩
    walk_at "rd"
    refine ⟨_, _, rfl, _, rfl, line_ge (by simp), fun p1 np1 => ?_⟩
    have hm : ∃ m : Int, atI [V.int 4, V.int 1000] (cell % 2) = some (.int m) ∧ 0 < m := by
      have h2 : cell % 2 = 0 ∨ cell % 2 = 1 := by omega
      rcases h2 with h | h <;> rw [h]
      · exact ⟨4, atI_int (by decide) rfl, by decide⟩
      · exact ⟨1000, atI_int (by decide) rfl, by decide⟩
    obtain ⟨m, hat, hm0⟩ := hm
    refine ⟨p1, _, cell % 2, .int m, rfl, rfl, SqL.of upd_same, hat, m, rfl, hm0, ?_⟩
    have G1 := G.keep (Same.new (o := .lst [V.int 4, V.int 1000]) np1)
    generalize upd H p1 (.lst [V.int 4, V.int 1000]) = H1 at G1 ⊢
    have hd1 := hd0.mono (Same.noD G1.same)
    obtain ⟨_, _, _, _, _, e', ha1, h11, h21, h31, h41⟩ := id hd1
    cases e'
    refine ⟨a, _, 0, _, rfl, rfl, SqT.of ha1, atI_int (by decide) rfl, _, rfl, _, .inr h11.seq, _, l.ins.length, by rw [List.length_map], by omega, fun H2 r row s2 hr hrow => ⟨_, _, rfl, _, rfl, ?_⟩⟩
    have G2 := G1.keep s2
    generalize mixed cell 72 / 3 % 8 = way
    by_cases w6 : way = 6
    · rw [decide_eq_true w6]
      have hsl := G2.ents.length
      refine iteT ⟨_, rfl, _, rfl, pw, _, i, .ref (x i), rfl, rfl, SqL.of G2.hpw, at_two (f := fun k => V.ref (x k)) hi, x i, cw, dx i, _, rfl, G2.hx i hi, rfl, lkWn (by decide +kernel), x i, dx i, (W i).1, (W i).2.1, (W i).2.2, .ref xl, u i, l, rfl, G2.hx i hi, hl0.mono (Same.imm G2.same), G2.tw i hi, G2.fit i hi, hfair, fun H3 kt b1 c1 s1 wd3 nkt hkt => ?_⟩
      have G3 := G2.keep wd3.same
      unfold tBM
      walk_at "rd"
      have hub := (G3.fit i hi).bits_len
      have hcl := (G3.fit i hi).cnt_len
      have hsl' := (G3.fit i hi).seen_len
      refine ⟨.inl ⟨rfl, _, SqL.of G3.hph⟩, ps, _, i, .ref (t i), rfl, rfl, SqL.of G3.hps, at_two (f := fun k => V.ref (t k)) hi, t i, (S i).1, (S i).2.1, (S i).2.2, u i, rfl, G3.ht i hi, G3.ts i hi, by omega, by omega, by omega, fun H4 st b2 c2 s2' wd4 nst hst => ⟨line_ge (by simp), fun h nh => ?_⟩⟩
      have s5 : Same H4 (upd H4 h (.tup [.ref kt, .ref st])) := Same.new nh
      have s35 := wd4.same.trans s5
      have G5 := (G3.keep wd4.same).keep s5
      have hh5 : upd H4 h (.tup [.ref kt, .ref st]) h = some (.tup [.ref kt, .ref st]) := upd_same
      generalize upd H4 h (.tup [.ref kt, .ref st]) = H5 at s5 s35 G5 hh5 ⊢
      have tA : TriT H5 (b1, c1, s1) (keptW l (u i)) := (Tri.keep wd3.tri s35)
      have tB : TriT H5 (b2, c2, s2') (u i) := Tri.keep wd4.tri s5
      have nA : NonT H2 (b1, c1, s1) := ⟨wd3.nb, wd3.nc, wd3.ns⟩
      have nB : NonT H3 (b2, c2, s2') := ⟨wd4.nb, wd4.nc, wd4.ns⟩
      have apAB : ApT (b1, c1, s1) (b2, c2, s2') := ApT.of (p := (b1, c1, s1)) wd3.tri nB
      have he : EntR H5 W S l (.ref h) (u i) := ⟨h, kt, st, (b1, c1, s1), (b2, c2, s2'), rfl, hh5, s35 _ _ hkt, s5 _ _ hst, tA, tB, G5.fit i hi, apAB, fun k hk => ⟨(ApT.of (G2.tw k hk) nA).symm, (ApT.of (G2.ts k hk) nA).symm, (ApT.of (G3.tw k hk) nB).symm, (ApT.of (G3.ts k hk) nB).symm⟩⟩
      have G6 := G5.push he
      have im : Imm (fun _ => True) H5 (upd H5 ph (.lst (hs ++ [.ref h]))) := Imm.mut G5.hph id
      have hph5 := G5.hph
      have tA6 : TriT (upd H5 ph (.lst (hs ++ [.ref h]))) (b1, c1, s1) (keptW l (u i)) := Tri.off tA (fun e => by have := tA.hb; rw [← e, hph5] at this; cases this) (fun e => by have := tA.hc; rw [← e, hph5] at this; cases this) (fun e => by have := tA.hs; rw [← e, hph5] at this; cases this)
      refine ⟨ph, hs, .ref h, rfl, rfl, hph5, by rw [sizeLine_eq]; omega, ps, _, i, .ref (t i), rfl, rfl, SqL.of G6.hps, at_two (f := fun k => V.ref (t k)) hi, ?_⟩
      have hkt6 := im _ _ (s35 _ _ hkt) trivial
      generalize upd H5 ph (.lst (hs ++ [.ref h])) = H6 at G6 tA6 hkt6 ⊢
      exact ⟨.ref a, kt, t i, b1, c1, s1, (S i).1, (S i).2.1, (S i).2.2, u i, l, rfl, hd0.mono (Same.noD G6.same), hfair, G6.fit i hi, hkt6, tA6, G6.ht i hi, G6.ts i hi, (ApT.of (G2.ts i hi) nA).symm, fun H7 s7 => k H7 S t u _ _ (G6.keep s7) (by simp)⟩
    rw [decide_eq_false w6]
    refine iteF ⟨fun σ' H' => ∃ v8 v9 v10 v11 v12 v13 v14 v15 : Option V, σ' = [some (.ref pw), some (.ref ps), some (.int i), some (.ref a), some (.int cell), some (.ref ph), some (.ref r), some (.int way), v8, v9, v10, v11, v12, v13, v14, v15] ∧ Gk cw H0 H' pw ps ph xl l x dx W S t u hs es ∧ H' r = some (.tup (row.map V.bl)), ?_, ?_⟩
    · walk_at "rd"
      by_cases w7 : way = 7
      · rw [decide_eq_true w7]
        refine iteT ⟨Nat.zero_le _, fun p2 np2 => ⟨ph, p2, hs, rfl, rfl, SqL.of (Same.new np2 _ _ G2.hph), SqL.of upd_same, ?_⟩⟩
        have G3 := G2.keep (Same.new (o := .lst []) np2)
        have hr3 := Same.new (o := .lst []) np2 _ _ hr
        generalize upd H2 p2 (.lst []) = H3 at G3 hr3 ⊢
        have hsl := G3.ents.length
        cases hhs : hs with
        | nil =>
          subst hhs
          exact ⟨false, rfl, iteF ⟨_, _, _, _, _, _, _, _, ⟨rfl, rfl, rfl, rfl, rfl, rfl, rfl, rfl⟩, G3, hr3⟩⟩
        | cons h0 hr0 =>
          rw [← hhs]
          have hpos : (0 : Int) < (hs.length : Int) := by rw [hhs, List.length_cons]; omega
          have b0' := Int.emod_nonneg (mixed cell 73 / 3) (show ((hs.length : Nat) : Int) ≠ 0 by omega)
          have b1' := Int.emod_lt_of_pos (mixed cell 73 / 3) hpos
          obtain ⟨g, hg, hgl⟩ : ∃ g : Nat, mixed cell 73 / 3 % (hs.length : Int) = (g : Int) ∧ g < hs.length := ⟨(mixed cell 73 / 3 % (hs.length : Int)).toNat, by omega, by omega⟩
          have hgs : hs[g]? = some hs[g] := List.getElem?_eq_getElem hgl
          obtain ⟨e, _, h, kt, st, A', B, ev, hh, hkt, hst, tA, tB, fe, apAB, apk⟩ := G3.ents.at hgs
          refine ⟨true, by rw [hhs]; rfl, iteT ⟨_, _, rfl, _, rfl, hs, .inl (SqL.of G3.hph), hpos, ?_⟩⟩
          rw [hg]
          refine ⟨ph, hs, g, hs[g], rfl, rfl, SqL.of G3.hph, atI_nat hgs, ?_⟩
          rw [ev]
          refine ⟨h, _, rfl, SqT.of hh, rfl, ?_⟩
          walk_at "rd"
          have hub := fe.bits_len
          have hcl := fe.cnt_len
          have hsl' := fe.seen_len
          have hkl : (keptW l e).bits.length ≤ 1000 := by
            have := congrArg List.length (wbits_keys l e)
            rw [len_keys] at this
            show (wbits l e).length ≤ 1000
            omega
          refine ⟨kt, A'.1, A'.2.1, A'.2.2, keptW l e, rfl, hkt, tA, hkl, by show e.cnt.length ≤ 1000; omega, by show e.seen.length ≤ 1000; omega, fun H4 t4 b4 c4 s4 wd4 nt4 ht4 => ?_⟩
          have G4 := G3.keep wd4.same
          have n4 : NonT H3 (b4, c4, s4) := ⟨wd4.nb, wd4.nc, wd4.ns⟩
          have apW4 : ApT (W i) (b4, c4, s4) := ApT.of (G3.tw i hi) n4
          refine ⟨_, rfl, _, rfl, pw, _, i, .ref (x i), rfl, rfl, SqL.of G4.hpw, at_two (f := fun k => V.ref (x k)) hi, x i, cw, dx i, _, rfl, G4.hx i hi, rfl, lkWn (by decide +kernel), _, rfl, x i, dx i, (W i).1, (W i).2.1, (W i).2.2, t4, b4, c4, s4, .ref xl, u i, keptW l e, l, rfl, G4.hx i hi, hl0.mono (Same.imm G4.same), G4.tw i hi, G4.fit i hi, hfair, ht4, wd4.tri, keptW_fits fe, apW4, fun H5 k5 t5 => ?_⟩
          have n5 := k5.noD (G4.tw i hi)
          have tA4 : TriT H4 A' (keptW l e) := tA.keep wd4.same
          have tB4 : TriT H4 B e := tB.keep wd4.same
          have tA5 : TriT H5 A' (keptW l e) := tA4.butA k5 (apk i hi).1
          have tB5 : TriT H5 B e := tB4.butA k5 (apk i hi).2.2.1
          have t45 : TriT H5 (b4, c4, s4) (keptW l e) := (show TriT H4 (b4, c4, s4) (keptW l e) from wd4.tri).butA k5 apW4.symm
          refine iteF ⟨kt, A'.1, A'.2.1, A'.2.2, keptW l e, rfl, n5.tup (wd4.same _ _ hkt), tA5, hkl, by show e.cnt.length ≤ 1000; omega, by show e.seen.length ≤ 1000; omega, fun H6 t6 b6 c6 s6 wd6 nt6 ht6 => ?_⟩
          have t46 : TriT H6 (b4, c4, s4) (keptW l e) := t45.keep wd6.same
          have ht46 := wd6.same _ _ (n5.tup ht4)
          have goodB : ∀ {l' : List (Str × Bool)}, (keysL l').Nodup → ∀ r ∈ dL V.bl l', valV (dL V.bl l') r.1 = some r.2 ∧ flatB r.2 = true := fun h r hr => by
            have := (good_vals h) r hr
            exact ⟨this, by obtain ⟨q, _, rfl⟩ := List.mem_map.mp hr; rfl⟩
          have goodI : ∀ {l' : List (Str × Int)}, (keysL l').Nodup → ∀ r ∈ dL V.int l', valV (dL V.int l') r.1 = some r.2 ∧ flatB r.2 = true := fun h r hr => by
            have := (good_vals h) r hr
            exact ⟨this, by obtain ⟨q, _, rfl⟩ := List.mem_map.mp hr; rfl⟩
          refine ⟨t4, t6, rfl, rfl, ⟨ne_of_none (n5.tup ht4) nt6, [b4, c4, s4], [b6, c6, s6], ht46, ht6, rfl, ?_⟩, false, rfl, iteF ?_⟩
          · intro j p q hp hq
            rcases j with _ | _ | _ | j
            · cases hp
              cases hq
              exact ⟨ne_of_none t45.hb wd6.nb, _, _, t46.hb, wd6.tri.hb, rfl, goodB (by rw [show (keptW l e).bits = wbits l e from rfl, wbits_keys]; exact writ_nodup _)⟩
            · cases hp
              cases hq
              exact ⟨ne_of_none t45.hc wd6.nc, _, _, t46.hc, wd6.tri.hc, rfl, goodI (by rw [show (keptW l e).cnt = e.cnt from rfl, fe.kc]; exact cnt0_nodup _)⟩
            · cases hp
              cases hq
              exact ⟨ne_of_none t45.hs wd6.ns, _, _, t46.hs, wd6.tri.hs, rfl, goodB (by rw [show (keptW l e).seen = e.seen from rfl, fe.ks]; exact seen0_nodup _)⟩
            · cases hp
          have nt4' : ¬ InT t4 (b4, c4, s4) := by
            rintro (q | q | q)
            · rw [q, t46.hb] at ht46; cases ht46
            · rw [q, t46.hc] at ht46; cases ht46
            · rw [q, t46.hs] at ht46; cases ht46
          refine ⟨_, rfl, t4, rfl, ⟨_, SqT.of ht46⟩, for_tup (K := K) (a := t4) (xs := [.ref b4, .ref c4, .ref s4]) (fun j σ H' => ∃ v12 : Option V, σ = [some (.ref pw), some (.ref ps), some (.int i), some (.ref a), some (.int cell), some (.ref ph), some (.ref r), some (.int way), none, some (.ref kt), some (.ref st), some (.ref t4), v12, none, none, none] ∧ OffP (fun b => InT b (b4, c4, s4)) H6 H' ∧ ∀ b, InT b (b4, c4, s4) → ∃ kvs, H' b = some (.dK kvs)) ⟨none, rfl, Same.off (Same.refl _), ?_⟩ (fun j σ H' _ ⟨_, _, q, _⟩ => SqT.of (q _ _ ht46 nt4')) ?_ ?_⟩
          · rintro b (rfl | rfl | rfl)
            · exact ⟨_, t46.hb⟩
            · exact ⟨_, t46.hc⟩
            · exact ⟨_, t46.hs⟩
          · rintro j y σ H7 hy ⟨v12, rfl, o7, d7⟩
            have hq : ∃ q, y = .ref q ∧ InT q (b4, c4, s4) := by
              rcases j with _ | _ | _ | j
              · exact ⟨_, by injection hy with e; exact e.symm, .inl rfl⟩
              · exact ⟨_, by injection hy with e; exact e.symm, .inr (.inl rfl)⟩
              · exact ⟨_, by injection hy with e; exact e.symm, .inr (.inr rfl)⟩
              · exact absurd hy (by simp)
            obtain ⟨q, rfl, hq⟩ := hq
            obtain ⟨kvs, hkv⟩ := d7 q hq
            unfold tBM0
            walk_at "rd"
            refine ⟨.inr (.inr (.inl ⟨rfl, .inl ⟨_, hkv⟩⟩)), q, _, rfl, rfl, hkv, o7.trans (OffP.upd hq), fun b hb => ?_⟩
            by_cases e2 : b = q
            · subst e2
              exact ⟨_, upd_same⟩
            · rw [upd_ne e2]
              exact d7 b hb
          rintro σ7 H7 ⟨v12, rfl, o67, _⟩
          have no4 : ∀ {q : Addr} {o : HO}, H3 q = some o → ¬ InT q (b4, c4, s4) := by
            rintro q o e (rfl | rfl | rfl)
            · rw [n4.1] at e; cases e
            · rw [n4.2.1] at e; cases e
            · rw [n4.2.2] at e; cases e
          have o37 : OffP (fun b => InT b (W i)) H3 H7 := fun q o e n => o67 _ _ (wd6.same _ _ ((ButT.off (S := fun b => InT b (W i)) (p := W i) k5 fun _ h => h) _ _ (wd4.same _ _ e) n)) (no4 e)
          have notW : ∀ {q : Addr} {o : HO}, H3 q = some o → (∀ kvs, o ≠ .dK kvs) → ¬ InT q (W i) := by
            rintro q o e nd (rfl | rfl | rfl)
            · have := (G3.tw i hi).hb; rw [e] at this; cases this; exact nd _ rfl
            · have := (G3.tw i hi).hc; rw [e] at this; cases this; exact nd _ rfl
            · have := (G3.tw i hi).hs; rw [e] at this; cases this; exact nd _ rfl
          have tW7 : TriT H7 (W i) (backW l (keptW l e)) := TriT.off (S := fun b => InT b (b4, c4, s4)) (TriT.keep (p := W i) t5 wd6.same) o67 (apW4.no)
          have tB7 : TriT H7 B e := TriT.off (S := fun b => InT b (b4, c4, s4)) (tB5.keep wd6.same) o67 (ApT.of tB n4).no
          walk_at "rd"
          refine ⟨st, B.1, B.2.1, B.2.2, e, rfl, o37 _ _ hst (notW hst fun _ q => by cases q), tB7, by omega, by omega, by omega, fun H8 t8 b8 c8 s8 wd8 nt8 ht8 => ?_⟩
          have hps7 := o37 _ _ G3.hps (notW G3.hps fun _ q => by cases q)
          have hps8 := wd8.same _ _ hps7
          have n8 : NonT H7 (b8, c8, s8) := ⟨wd8.nb, wd8.nc, wd8.ns⟩
          refine ⟨.ref ps, rfl, .int i, rfl, ps, _, i, i, rfl, rfl, hps8, ixN_at (by show i < 2; exact hi), ?_⟩
          have eset : [V.ref (t 0), V.ref (t 1)].set i (.ref t8) = [.ref (fset t i t8 0), .ref (fset t i t8 1)] := by
            have h : i = 0 ∨ i = 1 := by omega
            rcases h with rfl | rfl <;> rfl
          rw [eset]
          have hpsn : ∀ {q : Addr} {o : HO}, H8 q = some o → (∀ xs, o ≠ .lst xs) → q ≠ ps := fun e n q => by
            rw [q, hps8] at e
            cases e
            exact n _ rfl
          have o89 : OffP (fun b => b = ps) H8 (upd H8 ps (.lst [.ref (fset t i t8 0), .ref (fset t i t8 1)])) := OffP.upd rfl
          have hps9 : upd H8 ps (.lst [.ref (fset t i t8 0), .ref (fset t i t8 1)]) ps = some (.lst [.ref (fset t i t8 0), .ref (fset t i t8 1)]) := upd_same
          generalize upd H8 ps (.lst [.ref (fset t i t8 0), .ref (fset t i t8 1)]) = H9 at o89 hps9 ⊢
          have triP : ∀ {p : T3} {v : Ws}, TriT H8 p v → TriT H9 p v := fun {p v} q => TriT.off (S := fun b => b = ps) q o89 fun b hb e => by
            rcases hb with rfl | rfl | rfl
            · exact hpsn q.hb (fun _ z => by cases z) e
            · exact hpsn q.hc (fun _ z => by cases z) e
            · exact hpsn q.hs (fun _ z => by cases z) e
          have tW9 : TriT H9 (W i) (backW l (keptW l e)) := triP (tW7.keep wd8.same)
          have t89 : TriT H9 (b8, c8, s8) e := triP wd8.tri
          have ht9 := o89 _ _ ht8 (hpsn ht8 fun _ q => by cases q)
          have ha3 := G3.same _ _ ha0
          have ha9 := o89 _ _ (wd8.same _ _ (o37 _ _ ha3 (notW ha3 fun _ q => by cases q))) (hpsn (wd8.same _ _ (o37 _ _ ha3 (notW ha3 fun _ q => by cases q))) fun _ q => by cases q)
          have hti9 : Tp K H9 ti (l.ins.map V.str) := by
            rcases h10 with q | q
            · have q3 := G3.same _ _ q
              have q8 := wd8.same _ _ (o37 _ _ q3 (notW q3 fun _ z => by cases z))
              exact .inl (o89 _ _ q8 (hpsn q8 fun _ z => by cases z))
            · exact .inr q
          have not8 : ∀ {q : Addr} {vs : List V}, H9 q = some (.tup vs) → ¬ InT q (b8, c8, s8) := by
            rintro q vs e (rfl | rfl | rfl)
            · rw [t89.hb] at e; cases e
            · rw [t89.hc] at e; cases e
            · rw [t89.hs] at e; cases e
          have not8l : ∀ {q : Addr} {vs : List V}, H9 q = some (.lst vs) → ¬ InT q (b8, c8, s8) := by
            rintro q vs e (rfl | rfl | rfl)
            · rw [t89.hb] at e; cases e
            · rw [t89.hc] at e; cases e
            · rw [t89.hs] at e; cases e
          refine ⟨_, rfl, a, _, 0, .ref ti, rfl, rfl, SqT.of ha9, atI_int (by decide) rfl, ti, rfl, ⟨_, hti9.seq⟩, for_tup (K := K) (a := ti) (xs := l.ins.map V.str) (fun j σ H' => ∃ v13 : Option V, σ = [some (.ref pw), some (.ref ps), some (.int i), some (.ref a), some (.int cell), some (.ref ph), some (.ref r), some (.int way), none, some (.ref kt), some (.ref st), some (.ref t4), v12, v13, none, none] ∧ OffP (fun b => InT b (b8, c8, s8)) H9 H' ∧ Tri H' b8 c8 s8 ⟨putAll e.bits ((l.ins.take j).map fun n => (n, false)), e.cnt, e.seen⟩) ⟨none, rfl, Same.off (Same.refl _), t89⟩ (fun j σ H' _ ⟨_, _, q, _⟩ => by
            rcases hti9 with z | z
            · exact SqT.of (q _ _ z (not8 z))
            · exact z _) ?_ ?_⟩
          · rintro j y σ H10 hy ⟨v13, rfl, o10, t10⟩
            rw [List.getElem?_map] at hy
            obtain ⟨n, hn, rfl⟩ := Option.map_eq_some_iff.mp hy
            have hj := (List.getElem?_eq_some_iff.mp hn).1
            have hlen : (putAll e.bits ((l.ins.take j).map fun n => (n, false))).length ≤ 1000 := by
              have : ∀ (r b : List (Str × Bool)), (putAll b r).length ≤ b.length + r.length := fun r => by
                induction r with
                | nil => intro b; exact Nat.le_refl _
                | cons p r ih =>
                  intro b
                  have h1 := ih (putL b p.1 p.2)
                  have h2 := put_le (l := b) (n := p.1) (v := p.2)
                  show (putAll (putL b p.1 p.2) r).length ≤ _
                  rw [List.length_cons]
                  omega
              have h := this ((l.ins.take j).map fun n => (n, false)) e.bits
              rw [List.length_map, List.length_take] at h
              omega
            walk_at "rd"
            refine ⟨_, rfl, _, rfl, ps, _, i, .ref (fset t i t8 i), rfl, rfl, SqL.of (o10 _ _ hps9 (not8l hps9)), at_two (f := fun k => V.ref (fset t i t8 k)) hi, t8, _, 0, .ref b8, by rw [fset_at], rfl, SqT.of (o10 _ _ ht9 (not8 ht9)), atI_int (by decide) rfl, _, rfl, b8, _, rfl, DPut.k (k := .inr n) t10.hb (by rw [dL_len, sizeLine_eq]; show (putAll _ _).length < _; omega), _, rfl, o10.trans (OffP.upd (.inl rfl)), ?_⟩
            have q := t10.putB (putL (putAll e.bits ((l.ins.take j).map fun n => (n, false))) n false)
            rw [← dL_put] at q
            rw [List.take_succ, hn, Option.toList_some, List.map_append, putAll_app]
            exact q
          rintro σ10 H10 ⟨v13, rfl, o10, t10⟩
          rw [List.length_map, List.take_length, putAll_ins hfair fe] at t10
          walk_at "rd"
          have ho : ∀ {q : Addr} {o : HO}, H7 q = some o → ¬ InT q (b8, c8, s8) := by
            rintro q o e (rfl | rfl | rfl)
            · rw [n8.1] at e; cases e
            · rw [n8.2.1] at e; cases e
            · rw [n8.2.2] at e; cases e
          have o310 : OffP (fun b => InT b (W i) ∨ InT b (S i) ∨ b = ps) H3 H10 := fun q o e n => by
            have e7 := o37 q o e (fun z => n (.inl z))
            exact o10 _ _ (o89 _ _ (wd8.same _ _ e7) (fun z => n (.inr (.inr z)))) (ho e7)
          have none3 : ∀ {q : Addr}, H7 q = none → H3 q = none := fun {q} e => by
            cases hq : H3 q with
            | none => rfl
            | some o =>
              exfalso
              by_cases hw : InT q (W i)
              · rcases hw with rfl | rfl | rfl
                · rw [tW7.hb] at e; cases e
                · rw [tW7.hc] at e; cases e
                · rw [tW7.hs] at e; cases e
              · rw [o37 q o hq hw] at e
                cases e
          have G10 := G3.move hi (b8, c8, s8) t8 (backW l (keptW l e)) o310 (o10 _ _ hps9 (not8l hps9)) (TriT.off (S := fun b => InT b (b8, c8, s8)) tW9 o10 (ApT.of tW7 n8).no) t10 (o10 _ _ ht9 (not8 ht9)) (backW_fits (keptW_fits fe)) (.inr ⟨none3 n8.1, none3 n8.2.1, none3 n8.2.2⟩)
          exact k _ _ _ _ _ _ G10 (by omega)
      · rw [decide_eq_false w7]
        exact iteF ⟨_, _, _, _, _, _, _, _, ⟨rfl, rfl, rfl, rfl, rfl, rfl, rfl, rfl⟩, G2, hr⟩
    rintro σ3 H3 ⟨v8, v9, v10, v11, v12, v13, v14, v15, rfl, G3, hr3⟩
    refine ⟨fun σ' H' => σ' = [some (.ref pw), some (.ref ps), some (.int i), some (.ref a), some (.int cell), some (.ref ph), some (.ref r), some (.int way), v8, v9, v10, v11, v12, v13, v14, v15] ∧ Gk cw H0 H' pw ps ph xl l x dx W S t u hs es ∧ H' r = some (.tup (row.map V.bl)), ?_, ?_⟩
    · walk_at "rd"
      by_cases w5 : way = 5
      · rw [decide_eq_true w5]
        refine iteT ⟨pw, _, i, .ref (x i), rfl, rfl, SqL.of G3.hpw, at_two (f := fun k => V.ref (x k)) hi, _, _, rfl, _, rfl, x i, dx i, r, (W i).1, (W i).2.1, (W i).2.2, .ref xl, l, u i, row, _, rfl, G3.hx i hi, hl0.mono (Same.imm G3.same), G3.tw i hi, G3.fit i hi, hfair, hsz, SqT.of hr3, hrow, fun H4 s4 => ⟨true, rfl, iteF ?_⟩⟩
        have G4 := G3.keep s4
        refine ⟨pw, _, i, .ref (x i), rfl, rfl, SqL.of G4.hpw, at_two (f := fun k => V.ref (x k)) hi, ps, _, i, .ref (t i), rfl, rfl, SqL.of G4.hps, at_two (f := fun k => V.ref (t k)) hi, ?_⟩
        exact ⟨x i, dx i, (W i).1, (W i).2.1, (W i).2.2, (S i).1, (S i).2.1, (S i).2.2, .ref xl, .ref a, .ref (t i), u i, l, rfl, G4.hx i hi, hl0.mono (Same.imm G4.same), G4.tw i hi, hd0.mono (Same.noD G4.same), ⟨t i, rfl, G4.ht i hi, G4.ts i hi⟩, G4.fit i hi, hfair, hnm, G4.ws i hi i hi, fun H5 s5 => ⟨true, rfl, iteF ⟨G4.keep s5, (s4.trans s5) _ _ hr3⟩⟩⟩
      · rw [decide_eq_false w5]
        exact iteF ⟨G3, hr3⟩
    rintro σ4 H4 ⟨rfl, G4, hr4⟩
    walk_at "rd"
    refine ⟨ps, _, i, .ref (t i), rfl, rfl, SqL.of G4.hps, at_two (f := fun k => V.ref (t k)) hi, ?_⟩
    refine ⟨.ref a, .ref (t i), r, (S i).1, (S i).2.1, (S i).2.2, l, u i, row, rfl, hd0.mono (Same.noD G4.same), ⟨t i, rfl, G4.ht i hi, G4.ts i hi⟩, SqT.of hr4, hrow, G4.fit i hi, hfair, hsz, fun H5 td k5 ntd t5 htd => ?_⟩
    have n5 := k5.noD (G4.ts i hi)
    refine ⟨_, .inr (SqT.of (n5.tup hr4)), fun h nh => ?_⟩
    have s6 := Same.new (o := .lst (row.map V.bl)) nh
    have hh6 : upd H5 h (.lst (row.map V.bl)) h = some (.lst (row.map V.bl)) := upd_same
    have nh4 : H4 h = none := k5.free t5 nh
    generalize upd H5 h (.lst (row.map V.bl)) = H6 at s6 hh6 ⊢
    have tW5 : TriT H5 (W i) (u i) := (G4.tw i hi).butA k5 (G4.ws i hi i hi)
    have n46 : NoD H4 H6 := n5.trans (Same.noD s6)
    have hx6 := n46.ins (G4.hx i hi)
    have hl6 : IsL K cs H6 (.ref xl) l := (hl0.mono (Same.imm G4.same)).mono n46.imm
    refine ⟨_, rfl, _, rfl, pw, _, i, .ref (x i), rfl, rfl, SqL.of (n46.lst G4.hpw), at_two (f := fun k => V.ref (x k)) hi, x i, cw, dx i, _, rfl, hx6, rfl, lkWn (by decide +kernel), _, rfl, x i, dx i, h, (W i).1, (W i).2.1, (W i).2.2, .ref xl, l, u i, row.map V.bl, rfl, hx6, hl6, tW5.keep s6, G4.fit i hi, hfair, hsz, .inl (SqL.of hh6), bl_flat _, fun row3 e3 hl3 H7 tf k7 ntf t7 htf => ?_, fun z => absurd ⟨by rw [List.length_map, hrow], bl_isBl⟩ z⟩
    obtain rfl := bl_inj e3
    have fit2 := (G4.fit i hi).scan row
    generalize (scanP l (u i) row).1 = u2 at t5 t7 fit2
    generalize (scanP l (u i) row).2 = res at htd htf
    have tS7 : TriT H7 (S i) u2 := ((show TriT H5 (S i) u2 from t5).keep s6).butA k7 (G4.ws i hi i hi).symm
    have n47 := n46.trans (k7.noD (tW5.keep s6))
    have hh7 := (k7.noD (tW5.keep s6)).lst hh6
    unfold tBM0
    walk_at "rd"
    refine ⟨.inl ⟨rfl, _, SqL.of hh7⟩, h, _, rfl, rfl, hh7, ?_⟩
    have o47 : OffP (fun b => InT b (W i) ∨ InT b (S i) ∨ b = ps) H4 H7 := (ButT.off (p := S i) k5 fun _ h => .inr (.inl h)).trans ((Same.off s6).trans (ButT.off (p := W i) k7 fun _ h => .inl h))
    have o48 : OffP (fun b => InT b (W i) ∨ InT b (S i) ∨ b = ps) H4 (upd H7 h (.lst [])) := fun b o e n => by
      rw [upd_ne (ne_of_none e nh4)]
      exact o47 b o e n
    have hd8 : ∀ {p : T3} {v : Ws}, TriT H7 p v → TriT (upd H7 h (.lst [])) p v := fun {p v} q => Tri.off q (fun e => by have := q.hb; rw [← e, hh7] at this; cases this) (fun e => by have := q.hc; rw [← e, hh7] at this; cases this) (fun e => by have := q.hs; rw [← e, hh7] at this; cases this)
    have im : Imm (fun _ => True) H7 (upd H7 h (.lst [])) := Imm.mut hh7 id
    have hps7 : upd H7 h (.lst []) ps = some (.lst [.ref (t 0), .ref (t 1)]) := by
      rw [upd_ne (ne_of_none G4.hps nh4)]
      exact n47.lst G4.hps
    have eS : fset S i (S i) = S := by funext k; unfold fset; split <;> simp_all
    have et : fset t i (t i) = t := by funext k; unfold fset; split <;> simp_all
    have G8 := G4.move hi (S i) (t i) u2 o48 (by rw [et]; exact hps7) (hd8 t7) (hd8 tS7) (im _ _ (n47.tup (G4.ht i hi)) trivial) fit2 (.inl rfl)
    rw [eS, et] at G8
    have htd8 := im _ _ ((k7.noD (tW5.keep s6)).tup (s6 _ _ htd)) trivial
    have htf8 := im _ _ htf trivial
    exact ⟨tf, td, res, rfl, htf8, SqT.of htd8, k _ S t _ hs es G8 (by omega)⟩
end

--%% N21
def pr {α : Type} (a b : α) (k : Nat) : α := match k with
  | 0 => a
  | _ => b
section
variable {P : Program} {w : World} {K : PySem.W.Frag} {mg : Str → Option Value} {cs0 : Cs} {cc : Addr} {xc : Xc} {cw : Addr}
theorem ok_law (T0 : Txt K mg cs0 cc xc cw) {base : Heap} {f : Addr} {fd : FuncData} (F : Fun K "law" "law" s_law f fd) : FnOk P w K mg base CX0 50 f fd ["_law_script"] (spLaw K) := by
  have G__law_cell_at : FnAt P w K mg base CX0 "_law_cell_at" 1 _ (spCellAt K) := ok_cell_at T0.own.row.cells
  have G__law_mixed : FnAt P w K mg base CX0 "_law_mixed" 1 _ spMixed := ok_mixed T0.own.row.cells
  have G__law_drawn : FnAt P w K mg base CX0 "_law_drawn" 7 _ (spDrawnB K) := ok_drawnB T0.draw
  have G__law_made := ok_made22 (P := P) (w := w) (base := base) T0.made
  have M_Works := ok_init_wk (P := P) (w := w) (base := base) T0.own.sc.wk
  have G__law_new : FnAt P w K mg base CX0 "_law_new" 1 _ (spNew K) := ok_new T0.st.nw
  have G_kept := disp_kept (P := P) (w := w) (base := base) T0.own.kept
  have G__law_kept_right := ok_keptR (P := P) (w := w) (base := base) T0.own
  have G__law_deed := ok_deed (P := P) (w := w) (base := base) T0
  have G__law_look := ok_look (P := P) (w := w) (base := base) T0
  have G__law_as_told : FnAt P w K mg base CX0 "_law_as_told" 4 _ (spAsTold K cs0 cw) := ok_as_told T0.own.told
  have T := T0
  refine F.ok sc_law (fun vs H Q E h => ?_) (fun cdv A outer st H vs Q E hr h => ?_)
  · obtain ⟨a, script, rfl, _⟩ := h; rfl
  · obtain ⟨a, script, rfl, hS, hlen, k⟩ := h
    have hu := hu_of hr
    refine ⟨_, (pss_cons (ps_set (i := 1) sc_law.nd rfl (by first | exact Or.inl rfl | exact Or.inr rfl) (pe_callF G__law_drawn hr pass0 (pa_cons (pv 0) pa_nil)))
        (pss_cons (ps_set (i := 2) sc_law.nd rfl (by first | exact Or.inl rfl | exact Or.inr rfl) (pe_callF G__law_made hr pass0 (pa_cons (pv 1) pa_nil)))
        (pss_cons (ps_set (i := 3) sc_law.nd rfl (by first | exact Or.inl rfl | exact Or.inr rfl) (pe_lst (pa_cons (pe_makeF M_Works hr pass0 (pa_cons (pv 2) pa_nil)) (pa_cons (pe_makeF M_Works hr pass0 (pa_cons (pv 2) pa_nil)) pa_nil))))
        (pss_cons (ps_set (i := 4) sc_law.nd rfl (by first | exact Or.inl rfl | exact Or.inr rfl) (pe_lst (pa_cons (pe_callF G__law_new hr pass0 (pa_cons (pv 1) pa_nil)) (pa_cons (pe_callF G__law_new hr pass0 (pa_cons (pv 1) pa_nil)) pa_nil))))
        (pss_cons (ps_set (i := 5) sc_law.nd rfl (by first | exact Or.inl rfl | exact Or.inr rfl) (pe_lst pa_nil))
        (pss_cons (ps_setLc (i := 6) (own := [("_law_k", 7)]) (g := gName 7) (tt := tYes) rfl sc_law.nd rfl rfl (sw_true rfl rfl rfl (by decide +kernel)) (pi_range1 rfl T.z_range (pa_cons pe_int pa_nil)) (blkOk_by (own := [("_law_k", 7)]) (N := ["_law_script", "_law_drawn_here", "_law_ladder", "_law_works", "_law_states", "_law_held", "_law_first", "_law_k", "_law_cell", "_law_at", "_law_stored", "_law_state"]) (sc := defScope s_law) (by decide +kernel)) (fun _ _ _ _ _ => pg_name (i := 7) sc_law.nd rfl (Or.inl rfl)) (fun _ _ _ _ _ => pts_nil) (fun _ _ _ _ _ => (pe_callF G__law_mixed hr pass0 (pa_cons (pe_callF G__law_cell_at hr pass0 (pa_cons (pv 0) (pa_cons pe_int pa_nil))) (pa_cons (pe_op op_add pe_int (pv 7)) pa_nil)))))
        (pss_cons (ps_for PassesOwn.never rfl (pi_list (pe_slice sl_list (pe_op op_cat (pv 6) (pe_slice sl_list (pv 0) (po_some pe_int) po_none)) po_none (po_some pe_int))) (pg_name (i := 8) sc_law.nd rfl (by first | exact Or.inl rfl | exact Or.inr rfl)) (pss_cons (ps_set (i := 9) sc_law.nd rfl (by first | exact Or.inl rfl | exact Or.inr rfl) (pe_op op_mod (pe_op op_mod (pe_op op_fdiv (pe_callF G__law_mixed hr pass0 (pa_cons (pv 8) (pa_cons pe_int pa_nil))) pe_int) pe_int) pe_int))
          (pss_cons (ps_if (pt_not (pt_val (pe_callF G__law_deed hr pass0 (pa_cons (pv 3) (pa_cons (pv 4) (pa_cons (pv 9) (pa_cons (pv 1) (pa_cons (pv 8) (pa_cons (pv 5) pa_nil))))))))) (pss_one (ps_ret pe_bl)) pss_nil)
          (pss_one (ps_for PassesOwn.never rfl (pi_list (pe_lst (pa_cons pe_int (pa_cons pe_int pa_nil)))) (pg_name (i := 7) sc_law.nd rfl (by first | exact Or.inl rfl | exact Or.inr rfl)) (pss_one (ps_if (pt_not (pt_val (pe_callF G__law_look hr pass0 (pa_cons (pe_ix ix_list (pv 3) (pv 7) (fun _ _ => rfl)) (pa_cons (pv 1) (pa_cons (pe_ix ix_list (pv 4) (pv 7) (fun _ _ => rfl)) (pa_cons (pe_op op_fdiv (pe_callF G__law_mixed hr pass0 (pa_cons (pv 8) (pa_cons (pe_op op_add pe_int (pv 7)) pa_nil))) pe_int) pa_nil))))))) (pss_one (ps_ret pe_bl)) pss_nil)))))))
        (pss_cons (ps_expr (pe_dclear (pe_ix ix_tup (pe_methD0 G_kept hr pass0 (pe_ix ix_list (pv 3) pe_int (fun _ _ => rfl))) pe_int (fun _ _ => rfl))))
        (pss_cons (ps_for PassesOwn.never rfl (pi_list (pv 5)) (pg_tup rfl (pgs_cons (pg_name (i := 10) sc_law.nd rfl (by first | exact Or.inl rfl | exact Or.inr rfl)) (pgs_cons (pg_name (i := 11) sc_law.nd rfl (by first | exact Or.inl rfl | exact Or.inr rfl)) pgs_nil))) (pss_one (ps_if (pt_not (pt_val (pe_callF G__law_kept_right hr pass0 (pa_cons (pv 1) (pa_cons (pv 10) (pa_cons (pv 11) pa_nil)))))) (pss_one (ps_ret pe_bl)) pss_nil)))
        (pss_one (ps_ret (pe_callF G__law_as_told hr pass0 (pa_cons (pe_ix ix_list (pv 3) pe_int (fun _ _ => rfl)) (pa_cons (pv 1) (pa_cons (pe_ix ix_list (pv 4) pe_int (fun _ _ => rfl)) pa_nil))))))))))))))), ?_⟩
    walk_at "rd"
    refine ⟨a, script, rfl, hS, fun H1 dv l s1 hdr hfair hnamed hok => ?_⟩
    refine ⟨dv, l, rfl, hdr, hfair, hnamed, fun r hr => ⟨hok r hr, rfl⟩, fun H2 xl s2 _ hl => ?_⟩
    refine ⟨_, rfl, fun x0 dx0 nx0 nd0 _ => ⟨H2, x0, dx0, .ref xl, l, rfl, upd_same, same_mkE nx0 nd0, nx0, hl, hfair, fun H3 b0 c0 s0 w0 => ⟨rfl, ?_⟩⟩⟩
    refine ⟨_, rfl, fun x1 dx1 nx1 nd1 _ => ⟨H3, x1, dx1, .ref xl, l, rfl, upd_same, same_mkE nx1 nd1, nx1, hl.mono (Same.imm w0.same), hfair, fun H4 b1 c1 s1' w1 => ⟨rfl, line_ge (by simp), fun pw npw => ?_⟩⟩⟩
    have s45 := Same.new (o := .lst [.ref x0, .ref x1]) npw
    have hpw5 : upd H4 pw (.lst [.ref x0, .ref x1]) pw = some (.lst [.ref x0, .ref x1]) := upd_same
    generalize upd H4 pw (.lst [.ref x0, .ref x1]) = H5 at s45 hpw5 ⊢
    have s25 := (w0.same.trans w1.same).trans s45
    have hd2 : IsDr K H2 dv l := hdr.mono (Same.noD s2)
    refine ⟨dv, l, rfl, hd2.mono (Same.noD s25), hfair, fun H6 t0 B0 C0 S0 d0 nt0 ht0 => ?_⟩
    have s26 := s25.trans d0.same
    refine ⟨dv, l, rfl, hd2.mono (Same.noD s26), hfair, fun H7 t1 B1 C1 S1 d1 nt1 ht1 => ⟨line_ge (by simp), fun ps nps => ⟨line_ge (by simp), fun ph nph => ?_⟩⟩⟩
    have s27 := s26.trans d1.same
    have s78 := Same.new (o := .lst [.ref t0, .ref t1]) nps
    have hps8 : upd H7 ps (.lst [.ref t0, .ref t1]) ps = some (.lst [.ref t0, .ref t1]) := upd_same
    generalize upd H7 ps (.lst [.ref t0, .ref t1]) = H8 at nph s78 hps8 ⊢
    have s89 := Same.new (o := .lst []) nph
    have hph9 : upd H8 ph (.lst []) ph = some (.lst []) := upd_same
    generalize upd H8 ph (.lst []) = H9 at s89 hph9 ⊢
    have s79 := s78.trans s89
    have s69 := d1.same.trans s79
    have s59 := d0.same.trans s69
    have s49 := s45.trans s59
    have s39 := w1.same.trans s49
    have s29 := w0.same.trans s39
    have no : ∀ {A B C : Hp} {q : Addr}, Same A B → B q = none → A q = none := fun {A B C q} s e => by
      cases hq : A q with
      | none => rfl
      | some o => rw [s _ _ hq] at e; cases e
    have pr2 : ∀ {F : Nat → Prop}, F 0 → F 1 → ∀ k < 2, F k := fun {F} a b k hk => by
      have h : k = 0 ∨ k = 1 := by omega
      rcases h with rfl | rfl
      · exact a
      · exact b
    have n4 : ∀ {q : Addr}, H4 q = none → H2 q = none := fun e => no (C := H2) (w0.same.trans w1.same) e
    have n5 : ∀ {q : Addr}, H5 q = none → H2 q = none := fun e => no (C := H2) s25 e
    have n6 : ∀ {q : Addr}, H6 q = none → H2 q = none := fun e => no (C := H2) s26 e
    have n7 : ∀ {q : Addr}, H7 q = none → H2 q = none := fun e => no (C := H2) s27 e
    have n3 : ∀ {q : Addr}, H3 q = none → H2 q = none := fun e => no (C := H2) w0.same e
    have wt0 : TriT H3 (b0, c0, s0) (wNew l) := w0.tri
    have wt1 : TriT H4 (b1, c1, s1') (wNew l) := w1.tri
    have st0 : TriT H6 (B0, C0, S0) (wNew l) := d0.tri
    have st1 : TriT H7 (B1, C1, S1) (wNew l) := d1.tri
    have wt05 : TriT H5 (b0, c0, s0) (wNew l) := wt0.keep (w1.same.trans s45)
    have wt15 : TriT H5 (b1, c1, s1') (wNew l) := wt1.keep s45
    have G9 : Gk cw H2 H9 pw ps ph xl l (pr x0 x1) (pr dx0 dx1) (pr (b0, c0, s0) (b1, c1, s1')) (pr (B0, C0, S0) (B1, C1, S1)) (pr t0 t1) (fun _ => wNew l) [] [] :=
      { same := s29, npw := n4 npw, nps := n7 nps, nph := no (C := H2) (s27.trans s78) nph,
        d1 := ne_of_none ((d0.same.trans d1.same) _ _ hpw5) nps, d2 := ne_of_none (((d0.same.trans d1.same).trans s78) _ _ hpw5) nph, d3 := ne_of_none hps8 nph,
        hpw := s59 _ _ hpw5, hps := s89 _ _ hps8, hph := hph9,
        hx := pr2 (s39 _ _ w0.obj) (s49 _ _ w1.obj), tw := pr2 (wt05.keep s59) (wt15.keep s59), ts := pr2 (st0.keep s69) (st1.keep s79),
        ht := pr2 (s69 _ _ ht0) (s79 _ _ ht1), fit := fun _ _ => fits_new l,
        nW := pr2 ⟨w0.nb, w0.nc, w0.ns⟩ ⟨n3 w1.nb, n3 w1.nc, n3 w1.ns⟩, nS := pr2 ⟨n5 d0.nb, n5 d0.nc, n5 d0.ns⟩ ⟨n6 d1.nb, n6 d1.nc, n6 d1.ns⟩,
        ww := ApT.of wt0 ⟨w1.nb, w1.nc, w1.ns⟩,
        ws := pr2 (pr2 (ApT.of wt05 ⟨d0.nb, d0.nc, d0.ns⟩) (ApT.of (wt05.keep d0.same) ⟨d1.nb, d1.nc, d1.ns⟩)) (pr2 (ApT.of wt15 ⟨d0.nb, d0.nc, d0.ns⟩) (ApT.of (wt15.keep d0.same) ⟨d1.nb, d1.nc, d1.ns⟩)),
        ss := ApT.of st0 ⟨d1.nb, d1.nc, d1.ns⟩, ents := .nil }
    have hS9 := Same.seq (s1.trans (s2.trans s29)) hS
    refine ⟨_, rfl, by decide, by decide, fun pf nf => lc_range (lo := 0) (n := 3) (fun i H' => Same H9 H' ∧ ∃ cs : List Int, H' pf = some (.lst (cs.map V.int)) ∧ cs.length = i) ⟨Same.new nf, [], upd_same, rfl⟩ ?_ ?_⟩
    · rintro i H' hi ⟨q1, cs, q2, q3⟩
      refine ⟨rfl, _, rfl, a, script, 3, rfl, Same.seq q1 hS9, by decide, _, rfl, _, _, rfl, rfl, _, _, rfl, _, q2, by rw [List.length_map, sizeLine_eq]; omega, Same.mut q1 nf, cs ++ [mixed (cellAt script 3) (80 + (0 + i))], ?_, by rw [List.length_append, q3]; rfl⟩
      rw [List.map_append]
      exact upd_same
    rintro H10 ⟨s10, cs, hpf, hcl⟩
    have G10 := G9.keep s10
    have hS10 := Same.seq s10 hS9
    unfold iList
    walk_at "rd"
    refine ⟨_, rfl, _, rfl, slL_from 4 rfl hS10 fun pb npb => ?_⟩
    have sb := Same.new (o := .lst ((script.map V.int).drop 4)) npb
    have hpb : upd H10 pb (.lst ((script.map V.int).drop 4)) pb = some (.lst ((script.map V.int).drop 4)) := upd_same
    generalize upd H10 pb (.lst ((script.map V.int).drop 4)) = H11 at sb hpb ⊢
    refine ⟨pf, pb, _, _, rfl, rfl, sb _ _ hpf, hpb, by rw [sizeLine_eq, List.length_drop, List.length_map, List.length_map]; omega, fun pd npd => ?_⟩
    rw [← List.map_drop, ← List.map_append]
    have s1112 := Same.new (o := .lst ((cs ++ script.drop 4).map V.int)) npd
    refine slL_to 12 rfl (SqL.of upd_same) fun pc npc => ?_
    generalize hH12 : upd H11 pd (.lst ((cs ++ script.drop 4).map V.int)) = H12 at s1112 npc ⊢
    rw [← List.map_take]
    generalize hcells : (cs ++ script.drop 4).take 12 = cells
    have hcl : cells.length ≤ 12 := by rw [← hcells, List.length_take]; omega
    have s1213 := Same.new (o := .lst (cells.map V.int)) npc
    have hpc : upd H12 pc (.lst (cells.map V.int)) pc = some (.lst (cells.map V.int)) := upd_same
    generalize upd H12 pc (.lst (cells.map V.int)) = H13 at s1213 hpc ⊢
    have s1013 := (sb.trans s1112).trans s1213
    have npc10 : H10 pc = none := no (C := H10) (sb.trans s1112) npc
    obtain ⟨HB, sB2, sB13, hpcB, GB⟩ := G10.rebase s1013 npc10 hpc
    have hdB : IsDr K HB dv l := hd2.mono (Same.noD sB2)
    have hlB : IsL K cs0 HB (.ref xl) l := hl.mono (Same.imm sB2)
    have hsz : ∀ g ∈ l.rs, g.c.size ≤ 60 ∧ g.c.depth ≤ 20 := fun g hg => ⟨(hok g hg).2.1, (hok g hg).2.2.1⟩
    have hnm : ∀ n ∈ l.ins ++ writ l.rs, isName n = true := fun n hn => by
      rcases List.mem_append.mp hn with hn | hn
      · exact List.all_eq_true.mp hnamed n (List.mem_append_left _ hn)
      · obtain ⟨r, hr, rfl⟩ := (writ_mem _).mp hn
        exact (hok r hr).2.2.2.1
    refine ⟨pc, rfl, ⟨_, SqL.of hpc⟩, for_list (K := K) (a := pc) (xs := cells.map V.int) (fun i σ H' => ∃ (v7 v8 v9 : Option V) (S : Nat → T3) (t : Nat → Addr) (u : Nat → Ws) (hs : List V) (es : List Ws), σ = [some (.ref a), some dv, some (.ref xl), some (.ref pw), some (.ref ps), some (.ref ph), some (.ref pf), v7, v8, v9, none, none] ∧ Gk cw HB H' pw ps ph xl l (pr x0 x1) (pr dx0 dx1) (pr (b0, c0, s0) (b1, c1, s1')) S t u hs es ∧ es.length ≤ i) ⟨_, _, _, _, _, _, _, _, rfl, GB, Nat.le_refl _⟩ (fun i σ H' _ ⟨_, _, _, _, _, _, _, _, _, G, _⟩ => SqL.of (G.same _ _ hpcB)) ?_ ?_⟩
    · rintro i y σ H14 hy ⟨v7, v8, v9, S, t, u, hs, es, rfl, G, hes⟩
      have hil := (List.getElem?_eq_some_iff.mp hy).1
      rw [List.length_map] at hil
      rw [List.getElem?_map] at hy
      obtain ⟨cell, _, rfl⟩ := Option.map_eq_some_iff.mp hy
      walk_at "rd"
      refine ⟨_, _, rfl, _, rfl, ?_⟩
      obtain ⟨n, hn, hn2⟩ : ∃ n : Nat, mixed cell 75 / 3 % 3 % 2 = (n : Int) ∧ n < 2 := ⟨(mixed cell 75 / 3 % 3 % 2).toNat, by omega, by omega⟩
      rw [hn]
      refine ⟨HB, pw, ps, ph, xl, n, dv, cell, l, pr x0 x1, pr dx0 dx1, pr (b0, c0, s0) (b1, c1, s1'), S, t, u, hs, es, rfl, G, hn2, hdB, hlB, hfair, hsz, hnm, by omega, fun H15 S' t' u' hs' es' G' hes' => ⟨true, rfl, iteF ⟨line_ge (by simp), fun pk npk => ?_⟩⟩⟩
      have G16 := G'.keep (Same.new (o := .lst [V.int 0, V.int 1]) npk)
      have hpk : upd H15 pk (.lst [V.int 0, V.int 1]) pk = some (.lst [V.int 0, V.int 1]) := upd_same
      generalize upd H15 pk (.lst [V.int 0, V.int 1]) = H16 at G16 hpk ⊢
      clear G'
      refine ⟨⟨_, SqL.of hpk⟩, for_list (K := K) (a := pk) (xs := [V.int 0, V.int 1]) (fun j σ H' => ∃ v9, σ = [some (.ref a), some dv, some (.ref xl), some (.ref pw), some (.ref ps), some (.ref ph), some (.ref pf), v9, some (.int cell), some (.int n), none, none] ∧ Same H16 H') ⟨_, rfl, Same.refl _⟩ (fun j σ H' _ ⟨_, _, s⟩ => SqL.of (s _ _ hpk)) ?_ ?_⟩
      · rintro j y σ H17 hy ⟨v9, rfl, s17⟩
        obtain ⟨hj, rfl⟩ : j < 2 ∧ y = V.int (j : Int) := by
          rcases j with _ | _ | j
          · cases hy; exact ⟨by omega, rfl⟩
          · cases hy; exact ⟨by omega, rfl⟩
          · cases hy
        have G17 := G16.keep s17
        walk_at "rd"
        refine ⟨pw, _, j, _, rfl, rfl, SqL.of G17.hpw, at_two (f := fun k => V.ref (pr x0 x1 k)) hj, ps, _, j, _, rfl, rfl, SqL.of G17.hps, at_two (f := fun k => V.ref (t' k)) hj, _, _, rfl, _, rfl, ?_⟩
        exact ⟨pr x0 x1 j, pr dx0 dx1 j, (pr (b0, c0, s0) (b1, c1, s1') j).1, (pr (b0, c0, s0) (b1, c1, s1') j).2.1, (pr (b0, c0, s0) (b1, c1, s1') j).2.2, (S' j).1, (S' j).2.1, (S' j).2.2, t' j, .ref xl, dv, u' j, l, _, rfl, G17.hx j hj, hlB.mono (Same.imm G17.same), G17.tw j hj, hdB.mono (Same.noD G17.same), G17.ht j hj, G17.ts j hj, G17.fit j hj, hfair, hnm, G17.ws j hj j hj, fun H18 s18 => ⟨true, rfl, iteF (s17.trans s18)⟩⟩
      · rintro σ H17 ⟨v9, rfl, s17⟩
        exact ⟨_, _, _, rfl, _, _, _, _, _, G16.keep s17, by omega⟩
    · rintro σ H14 ⟨v7, v8, v9, S, t, u, hs, es, rfl, G, hes⟩
      unfold tBM0 tMethD
      walk_at "rd"
      refine ⟨pw, _, 0, .ref (pr x0 x1 0), rfl, rfl, SqL.of G.hpw, at_two (f := fun k => V.ref (pr x0 x1 k)) (i := 0) (by decide), pr x0 x1 0, rfl, cw, pr dx0 dx1 0, _, G.hx 0 (by decide), rfl, lkWn (by decide +kernel), pr x0 x1 0, pr dx0 dx1 0, _, _, _, .ref xl, u 0, l, rfl, G.hx 0 (by decide), hlB.mono (Same.imm G.same), G.tw 0 (by decide), G.fit 0 (by decide), hfair, fun H15 kt b2 c2 s2 wd nkt hkt => ?_⟩
      refine ⟨kt, _, 0, _, rfl, rfl, SqT.of hkt, atI_int (by decide) rfl, ?_⟩
      refine ⟨.inr (.inr (.inl ⟨rfl, .inl ⟨_, wd.tri.hb⟩⟩)), b2, _, rfl, rfl, wd.tri.hb, ?_⟩
      have sc : Same H14 (upd H15 b2 (.dK [])) := Same.mut wd.same wd.nb
      have G2 := G.keep sc
      generalize upd H15 b2 (.dK []) = H16 at G2 ⊢
      clear G
      refine ⟨_, rfl, ph, rfl, ⟨_, SqL.of G2.hph⟩, for_list (K := K) (a := ph) (xs := hs) (fun j σ H' => ∃ va vb, σ = [some (.ref a), some dv, some (.ref xl), some (.ref pw), some (.ref ps), some (.ref ph), some (.ref pf), v7, v8, v9, va, vb] ∧ Same H16 H') ⟨_, _, rfl, Same.refl _⟩ (fun j σ H' _ ⟨_, _, _, s⟩ => SqL.of (s _ _ G2.hph)) ?_ ?_⟩
      · rintro j y σ H17 hy ⟨va, vb, rfl, s17⟩
        have G17 := G2.keep s17
        obtain ⟨e, _, h, kt, st, A, B, rfl, h1, h2, h3, h4, h5, h6, h7, h8⟩ := G17.ents.at hy
        walk_at "rd"
        refine ⟨h, _, rfl, SqT.of h1, rfl, ?_⟩
        walk_at "rd"
        exact ⟨dv, _, _, A.1, A.2.1, A.2.2, B.1, B.2.1, B.2.2, e, l, rfl, hdB.mono (Same.noD G17.same), hfair, h6, h2, h4, h3, h5, h7, fun H18 s18 => ⟨true, rfl, iteF ⟨_, _, ⟨rfl, rfl⟩, s17.trans s18⟩⟩⟩
      · rintro σ H17 ⟨va, vb, rfl, s17⟩
        have G17 := G2.keep s17
        walk_at "rd"
        refine ⟨pw, _, 0, _, rfl, rfl, SqL.of G17.hpw, at_two (f := fun k => V.ref (pr x0 x1 k)) (i := 0) (by decide), ps, _, 0, _, rfl, rfl, SqL.of G17.hps, at_two (f := fun k => V.ref (t k)) (i := 0) (by decide), ?_⟩
        exact ⟨pr x0 x1 0, pr dx0 dx1 0, _, _, _, (S 0).1, (S 0).2.1, (S 0).2.2, .ref xl, dv, .ref (t 0), u 0, l, rfl, G17.hx 0 (by decide), hlB.mono (Same.imm G17.same), G17.tw 0 (by decide), hdB.mono (Same.noD G17.same), ⟨t 0, rfl, G17.ht 0 (by decide), G17.ts 0 (by decide)⟩, G17.fit 0 (by decide), hfair, hnm, G17.ws 0 (by decide) 0 (by decide), fun H18 _ => k H18⟩
end

--%% N22
end My
end
section
open PySem PySem.Spec L2 Ru
namespace My
def a_cs (K : PySem.W.Frag) : Cs := ⟨⟨(He.ga K "Fixed"), (He.ga K "Contact"), (He.ga K "Turned"), (He.ga K "Series"), (He.ga K "Branch")⟩, ⟨(He.ga K "Coil"), (He.ga K "Latch"), (He.ga K "Unlatch"), (He.ga K "Timer"), (He.ga K "Counter"), (He.ga K "End")⟩, (He.ga K "Rung"), (He.ga K "Ladder")⟩
def a_cc (K : PySem.W.Frag) : Addr := (He.ga K "Counting")
def a_xc (K : PySem.W.Frag) : Xc := ⟨(He.ga K "LadderError"), (He.ga K "NoName"), (He.ga K "NoPart"), (He.ga K "NoEnd"), (He.ga K "NoLadder"), 0, (He.ga K "NoRow"), 0, 0, 0, 0⟩
def a_cw (K : PySem.W.Frag) : Addr := (He.ga K "Works")
theorem f_TCells {K : PySem.W.Frag} {h : Heap} {mg : Str → Option Value} (X : K.In h) (G : h.Ns mainGlobals mg) (c : Hd.Says Hh.facts Hh.defs K) : TCells K mg :=
  ⟨(Hd.def_of X G (c.at_ 1 rfl) (c.def_ 1 rfl) (fun _ _ _ _ _ _ us hl => match us, hl with | [_, _], _ => rfl)),
   (Hd.def_of X G (c.at_ 2 rfl) (c.def_ 2 rfl) (fun _ _ _ _ _ _ us hl => match us, hl with | [_, _], _ => rfl)),
   (Hd.no_of X G (c.at_ 3 rfl))⟩
theorem f_TBNames {K : PySem.W.Frag} {h : Heap} {mg : Str → Option Value} (X : K.In h) (G : h.Ns mainGlobals mg) (c : Hd.Says Hh.facts Hh.defs K) : TBNames K mg :=
  ⟨(f_TCells X G c),
   (Hd.def_of X G (c.at_ 4 rfl) (c.def_ 3 rfl) (fun _ _ _ _ _ _ us hl => match us, hl with | [_, _], _ => rfl)),
   (Hd.def_of X G (c.at_ 5 rfl) (c.def_ 4 rfl) (fun _ _ _ _ _ _ us hl => match us, hl with | [_], _ => rfl)),
   (Hd.no_of X G (c.at_ 6 rfl))⟩
theorem f_TDraw {K : PySem.W.Frag} {h : Heap} {mg : Str → Option Value} (X : K.In h) (G : h.Ns mainGlobals mg) (c : Hd.Says Hh.facts Hh.defs K) : TDraw K mg :=
  ⟨(f_TBNames X G c),
   (Hd.def_of X G (c.at_ 7 rfl) (c.def_ 5 rfl) (fun _ _ _ _ _ _ us hl => match us, hl with | [_, _, _], _ => rfl)),
   (Hd.def_of X G (c.at_ 8 rfl) (c.def_ 6 rfl) (fun _ _ _ _ _ _ us hl => match us, hl with | [_, _, _, _], _ => rfl)),
   (Hd.def_of X G (c.at_ 9 rfl) (c.def_ 7 rfl) (fun _ _ _ _ _ _ us hl => match us, hl with | [_, _, _], _ => rfl)),
   (Hd.def_of X G (c.at_ 10 rfl) (c.def_ 8 rfl) (fun _ _ _ _ _ _ us hl => match us, hl with | [_], _ => rfl)),
   (Hd.no_of X G (c.at_ 3 rfl)),
   (Hd.no_of X G (c.at_ 6 rfl)),
   (Hd.no_of X G (c.at_ 11 rfl)),
   (Hd.no_of X G (c.at_ 12 rfl)),
   (Hd.no_of X G (c.at_ 13 rfl))⟩
theorem f_TNames {K : PySem.W.Frag} {h : Heap} {mg : Str → Option Value} (X : K.In h) (G : h.Ns mainGlobals mg) (c : Hd.Says Hh.facts Hh.defs K) : TNames K mg :=
  ⟨(Hd.def_of X G (c.at_ 14 rfl) (c.def_ 9 rfl) (fun _ _ _ _ _ _ us hl => match us, hl with | [_], _ => rfl)),
   (Hd.def_of X G (c.at_ 15 rfl) (c.def_ 10 rfl) (fun _ _ _ _ _ _ us hl => match us, hl with | [_], _ => rfl)),
   (Hd.con_of X G (c.at_ 16 rfl)),
   (Hd.con_of X G (c.at_ 17 rfl)),
   (Hd.tup_of X G (c.at_ 18 rfl)),
   (Hd.no_of X G (c.at_ 3 rfl))⟩
theorem f_TEnds {K : PySem.W.Frag} {h : Heap} {mg : Str → Option Value} (X : K.In h) (G : h.Ns mainGlobals mg) (c : Hd.Says Hh.facts Hh.defs K) : TEnds K mg (a_cs K).ce :=
  ⟨(f_TNames X G c),
   (Hd.cls_of X G (c.at_ 19 rfl)),
   (Hd.cls_of X G (c.at_ 20 rfl)),
   (Hd.cls_of X G (c.at_ 21 rfl)),
   (Hd.cls_of X G (c.at_ 22 rfl)),
   (Hd.cls_of X G (c.at_ 23 rfl)),
   (Hd.cls_of X G (c.at_ 24 rfl)),
   (Hd.na_of (c.at_ 25 rfl)),
   (Hd.na_of (c.at_ 26 rfl)),
   (Hd.na_of (c.at_ 27 rfl)),
   (Hd.na_of (c.at_ 28 rfl)),
   (Hd.na_of (c.at_ 29 rfl)),
   (Hd.na_of (c.at_ 30 rfl)),
   (Hd.na_of (c.at_ 31 rfl)),
   (Hd.met_of (c.at_ 32 rfl) (c.def_ 11 rfl) (fun _ _ _ _ _ _ us hl => match us, hl with | [_], _ => rfl)),
   (Hd.met_of (c.at_ 33 rfl) (c.def_ 12 rfl) (fun _ _ _ _ _ _ us hl => match us, hl with | [_], _ => rfl)),
   (Hd.met_of (c.at_ 34 rfl) (c.def_ 13 rfl) (fun _ _ _ _ _ _ us hl => match us, hl with | [_], _ => rfl)),
   (Hd.met_of (c.at_ 35 rfl) (c.def_ 14 rfl) (fun _ _ _ _ _ _ us hl => match us, hl with | [_], _ => rfl)),
   (Hd.met_of (c.at_ 36 rfl) (c.def_ 15 rfl) (fun _ _ _ _ _ _ us hl => match us, hl with | [_], _ => rfl)),
   (Hd.met_of (c.at_ 37 rfl) (c.def_ 16 rfl) (fun _ _ _ _ _ _ us hl => match us, hl with | [_], _ => rfl)),
   (Hd.met_of (c.at_ 38 rfl) (c.def_ 17 rfl) (fun _ _ _ _ _ _ us hl => match us, hl with | [_], _ => rfl)),
   (Hd.met_of (c.at_ 39 rfl) (c.def_ 18 rfl) (fun _ _ _ _ _ _ us hl => match us, hl with | [_], _ => rfl)),
   (Hd.met_of (c.at_ 40 rfl) (c.def_ 19 rfl) (fun _ _ _ _ _ _ us hl => match us, hl with | [_], _ => rfl)),
   (Hd.met_of (c.at_ 41 rfl) (c.def_ 20 rfl) (fun _ _ _ _ _ _ us hl => match us, hl with | [_], _ => rfl)),
   (Hd.met_of (c.at_ 42 rfl) (c.def_ 21 rfl) (fun _ _ _ _ _ _ us hl => match us, hl with | [_], _ => rfl)),
   (Hd.met_of (c.at_ 43 rfl) (c.def_ 22 rfl) (fun _ _ _ _ _ _ us hl => match us, hl with | [_], _ => rfl)),
   (Hd.met_of (c.at_ 44 rfl) (c.def_ 23 rfl) (fun _ _ _ _ _ _ us hl => match us, hl with | [_], _ => rfl)),
   (Hd.met_of (c.at_ 45 rfl) (c.def_ 24 rfl) (fun _ _ _ _ _ _ us hl => match us, hl with | [_], _ => rfl)),
   (Hd.met_of (c.at_ 46 rfl) (c.def_ 25 rfl) (fun _ _ _ _ _ _ us hl => match us, hl with | [_], _ => rfl)),
   (Hd.met_of (c.at_ 47 rfl) (c.def_ 26 rfl) (fun _ _ _ _ _ _ us hl => match us, hl with | [_, _], _ => rfl)),
   (Hd.met_of (c.at_ 48 rfl) (c.def_ 27 rfl) (fun _ _ _ _ _ _ us hl => match us, hl with | [_, _], _ => rfl)),
   (Hd.met_of (c.at_ 49 rfl) (c.def_ 28 rfl) (fun _ _ _ _ _ _ us hl => match us, hl with | [_, _], _ => rfl)),
   (Hd.met_of (c.at_ 50 rfl) (c.def_ 29 rfl) (fun _ _ _ _ _ _ us hl => match us, hl with | [_, _, _], _ => rfl)),
   (Hd.met_of (c.at_ 51 rfl) (c.def_ 30 rfl) (fun _ _ _ _ _ _ us hl => match us, hl with | [_, _, _], _ => rfl)),
   (Hd.cfn_of (c.at_ 52 rfl) (c.def_ 31 rfl) (fun _ _ _ _ _ _ us hl => match us, hl with | [_, _], _ => rfl)),
   (of_decide_eq_true (c.at_ 53 rfl)),
   (Hd.no_of X G (c.at_ 54 rfl)),
   (Hd.no_of X G (c.at_ 55 rfl)),
   (Hd.no_of X G (c.at_ 56 rfl)),
   (Hd.no_of X G (c.at_ 57 rfl)),
   (Hd.con_of X G (c.at_ 58 rfl))⟩
theorem f_TEnK {K : PySem.W.Frag} {h : Heap} {mg : Str → Option Value} (X : K.In h) (G : h.Ns mainGlobals mg) (c : Hd.Says Hh.facts Hh.defs K) : TEnK K mg (a_cs K).ce :=
  ⟨(f_TEnds X G c),
   (Hd.one_of (c.at_ 59 rfl)),
   (Hd.one_of (c.at_ 60 rfl)),
   (Hd.one_of (c.at_ 61 rfl)),
   (Hd.one_of (c.at_ 62 rfl)),
   (Hd.one_of (c.at_ 63 rfl)),
   (Hd.one_of (c.at_ 64 rfl)),
   (Hd.one_of (c.at_ 65 rfl)),
   (Hd.one_of (c.at_ 66 rfl)),
   (Hd.one_of (c.at_ 67 rfl)),
   (Hd.one_of (c.at_ 68 rfl)),
   (Hd.one_of (c.at_ 69 rfl)),
   (Hd.one_of (c.at_ 70 rfl)),
   (Hd.one_of (c.at_ 71 rfl)),
   (Hd.one_of (c.at_ 72 rfl)),
   (Hd.one_of (c.at_ 73 rfl)),
   (Hd.one_of (c.at_ 74 rfl)),
   (Hd.one_of (c.at_ 75 rfl)),
   (Hd.one_of (c.at_ 76 rfl)),
   (Hd.one_of (c.at_ 77 rfl)),
   (Hd.one_of (c.at_ 78 rfl)),
   (Hd.one_of (c.at_ 79 rfl)),
   (Hd.one_of (c.at_ 80 rfl)),
   (Hd.one_of (c.at_ 81 rfl)),
   (Hd.one_of (c.at_ 82 rfl)),
   (Hd.one_of (c.at_ 83 rfl)),
   (Hd.one_of (c.at_ 84 rfl)),
   (Hd.one_of (c.at_ 85 rfl)),
   (Hd.one_of (c.at_ 86 rfl)),
   (Hd.one_of (c.at_ 87 rfl)),
   (Hd.one_of (c.at_ 88 rfl))⟩
theorem f_TExs {K : PySem.W.Frag} {h : Heap} {mg : Str → Option Value} (X : K.In h) (G : h.Ns mainGlobals mg) (c : Hd.Says Hh.facts Hh.defs K) : TExs K mg (a_xc K) :=
  ⟨(Hd.err_of X G (c.at_ 89 rfl)),
   (Hd.exc_of X G (c.at_ 90 rfl)),
   (Hd.exc_of X G (c.at_ 91 rfl)),
   (Hd.exc_of X G (c.at_ 92 rfl)),
   (Hd.exc_of X G (c.at_ 93 rfl)),
   (Hd.exc_of X G (c.at_ 94 rfl)),
   (of_decide_eq_true (c.at_ 95 rfl))⟩
theorem f_TLad {K : PySem.W.Frag} {h : Heap} {mg : Str → Option Value} (X : K.In h) (G : h.Ns mainGlobals mg) (c : Hd.Says Hh.facts Hh.defs K) : TLad K mg (a_cs K) (a_cc K) (a_xc K) :=
  ⟨(f_TEnK X G c),
   (f_TExs X G c),
   (Hd.cls_of X G (c.at_ 96 rfl)),
   (Hd.cls_of X G (c.at_ 97 rfl)),
   (Hd.cls_of X G (c.at_ 98 rfl)),
   (Hd.one_of (c.at_ 99 rfl)),
   (Hd.one_of (c.at_ 100 rfl)),
   (Hd.one_of (c.at_ 101 rfl)),
   (Hd.one_of (c.at_ 102 rfl)),
   (Hd.one_of (c.at_ 103 rfl)),
   (Hd.na_of (c.at_ 104 rfl)),
   (Hd.na_of (c.at_ 105 rfl)),
   (Hd.na_of (c.at_ 106 rfl)),
   (Hd.na_of (c.at_ 107 rfl)),
   (Hd.na_of (c.at_ 108 rfl)),
   (Hd.def_of X G (c.at_ 109 rfl) (c.def_ 32 rfl) (fun _ _ _ _ _ _ us hl => match us, hl with | [_, _, _], _ => rfl)),
   (Hd.def_of X G (c.at_ 110 rfl) (c.def_ 33 rfl) (fun _ _ _ _ _ _ us hl => match us, hl with | [_], _ => rfl)),
   (Hd.def_of X G (c.at_ 111 rfl) (c.def_ 34 rfl) (fun _ _ _ _ _ _ us hl => match us, hl with | [_], _ => rfl)),
   (Hd.met_of (c.at_ 112 rfl) (c.def_ 35 rfl) (fun _ _ _ _ _ _ us hl => match us, hl with | [_, _, _], _ => rfl)),
   (Hd.met_of (c.at_ 113 rfl) (c.def_ 36 rfl) (fun _ _ _ _ _ _ us hl => match us, hl with | [_, _, _, _], _ => rfl)),
   (Hd.met_of (c.at_ 114 rfl) (c.def_ 37 rfl) (fun _ _ _ _ _ _ us hl => match us, hl with | [_], _ => rfl)),
   (Hd.no_of X G (c.at_ 3 rfl)),
   (Hd.no_of X G (c.at_ 115 rfl)),
   (Hd.no_of X G (c.at_ 11 rfl)),
   (Hd.no_of X G (c.at_ 116 rfl)),
   (Hd.no_of X G (c.at_ 54 rfl)),
   (Hd.con_of X G (c.at_ 117 rfl)),
   (Hd.con_of X G (c.at_ 118 rfl)),
   (Hd.con_of X G (c.at_ 119 rfl))⟩
theorem f_TParts {K : PySem.W.Frag} {h : Heap} {mg : Str → Option Value} (X : K.In h) (G : h.Ns mainGlobals mg) (c : Hd.Says Hh.facts Hh.defs K) : TParts K mg (a_cs K).cl :=
  ⟨(Hd.cls_of X G (c.at_ 120 rfl)),
   (Hd.cls_of X G (c.at_ 121 rfl)),
   (Hd.cls_of X G (c.at_ 122 rfl)),
   (Hd.cls_of X G (c.at_ 123 rfl)),
   (Hd.cls_of X G (c.at_ 124 rfl)),
   (of_decide_eq_true (c.at_ 125 rfl)),
   (Hd.na_of (c.at_ 126 rfl)),
   (Hd.na_of (c.at_ 127 rfl)),
   (Hd.na_of (c.at_ 128 rfl)),
   (Hd.na_of (c.at_ 129 rfl)),
   (Hd.na_of (c.at_ 130 rfl)),
   (Hd.met_of (c.at_ 131 rfl) (c.def_ 38 rfl) (fun _ _ _ _ _ _ us hl => match us, hl with | [_], _ => rfl)),
   (Hd.met_of (c.at_ 132 rfl) (c.def_ 39 rfl) (fun _ _ _ _ _ _ us hl => match us, hl with | [_], _ => rfl)),
   (Hd.met_of (c.at_ 133 rfl) (c.def_ 40 rfl) (fun _ _ _ _ _ _ us hl => match us, hl with | [_], _ => rfl)),
   (Hd.met_of (c.at_ 134 rfl) (c.def_ 41 rfl) (fun _ _ _ _ _ _ us hl => match us, hl with | [_], _ => rfl)),
   (Hd.met_of (c.at_ 135 rfl) (c.def_ 42 rfl) (fun _ _ _ _ _ _ us hl => match us, hl with | [_], _ => rfl)),
   (Hd.met_of (c.at_ 136 rfl) (c.def_ 43 rfl) (fun _ _ _ _ _ _ us hl => match us, hl with | [_], _ => rfl)),
   (Hd.met_of (c.at_ 137 rfl) (c.def_ 44 rfl) (fun _ _ _ _ _ _ us hl => match us, hl with | [_], _ => rfl)),
   (Hd.met_of (c.at_ 138 rfl) (c.def_ 45 rfl) (fun _ _ _ _ _ _ us hl => match us, hl with | [_], _ => rfl)),
   (Hd.met_of (c.at_ 139 rfl) (c.def_ 46 rfl) (fun _ _ _ _ _ _ us hl => match us, hl with | [_], _ => rfl)),
   (Hd.met_of (c.at_ 140 rfl) (c.def_ 47 rfl) (fun _ _ _ _ _ _ us hl => match us, hl with | [_], _ => rfl)),
   (Hd.met_of (c.at_ 141 rfl) (c.def_ 48 rfl) (fun _ _ _ _ _ _ us hl => match us, hl with | [_], _ => rfl)),
   (Hd.met_of (c.at_ 142 rfl) (c.def_ 49 rfl) (fun _ _ _ _ _ _ us hl => match us, hl with | [_], _ => rfl)),
   (Hd.met_of (c.at_ 143 rfl) (c.def_ 50 rfl) (fun _ _ _ _ _ _ us hl => match us, hl with | [_], _ => rfl)),
   (Hd.met_of (c.at_ 144 rfl) (c.def_ 51 rfl) (fun _ _ _ _ _ _ us hl => match us, hl with | [_], _ => rfl)),
   (Hd.met_of (c.at_ 145 rfl) (c.def_ 52 rfl) (fun _ _ _ _ _ _ us hl => match us, hl with | [_], _ => rfl)),
   (Hd.met_of (c.at_ 146 rfl) (c.def_ 53 rfl) (fun _ _ _ _ _ _ us hl => match us, hl with | [_], _ => rfl)),
   (Hd.met_of (c.at_ 147 rfl) (c.def_ 54 rfl) (fun _ _ _ _ _ _ us hl => match us, hl with | [_], _ => rfl)),
   (Hd.met_of (c.at_ 148 rfl) (c.def_ 55 rfl) (fun _ _ _ _ _ _ us hl => match us, hl with | [_], _ => rfl)),
   (Hd.no_of X G (c.at_ 149 rfl)),
   (Hd.no_of X G (c.at_ 150 rfl)),
   (Hd.no_of X G (c.at_ 11 rfl)),
   (Hd.con_of X G (c.at_ 151 rfl)),
   (Hd.con_of X G (c.at_ 152 rfl))⟩
theorem f_TMake {K : PySem.W.Frag} {h : Heap} {mg : Str → Option Value} (X : K.In h) (G : h.Ns mainGlobals mg) (c : Hd.Says Hh.facts Hh.defs K) : TMake K mg (a_cs K).cl :=
  ⟨(f_TNames X G c),
   (f_TParts X G c),
   (Hd.met_of (c.at_ 153 rfl) (c.def_ 56 rfl) (fun _ _ _ _ _ _ us hl => match us, hl with | [_, _], _ => rfl)),
   (Hd.met_of (c.at_ 154 rfl) (c.def_ 57 rfl) (fun _ _ _ _ _ _ us hl => match us, hl with | [_, _], _ => rfl)),
   (Hd.met_of (c.at_ 155 rfl) (c.def_ 58 rfl) (fun _ _ _ _ _ _ us hl => match us, hl with | [_, _], _ => rfl)),
   (Hd.met_of (c.at_ 156 rfl) (c.def_ 59 rfl) (fun _ _ _ _ _ _ us hl => match us, hl with | [_, _], _ => rfl)),
   (Hd.met_of (c.at_ 157 rfl) (c.def_ 60 rfl) (fun _ _ _ _ _ _ us hl => match us, hl with | [_, _], _ => rfl)),
   (Hd.no_of X G (c.at_ 3 rfl)),
   (Hd.no_of X G (c.at_ 11 rfl))⟩
theorem f_TPartOf {K : PySem.W.Frag} {h : Heap} {mg : Str → Option Value} (X : K.In h) (G : h.Ns mainGlobals mg) (c : Hd.Says Hh.facts Hh.defs K) : TPartOf K mg (a_cs K).cl :=
  ⟨(f_TMake X G c),
   (Hd.def_of X G (c.at_ 158 rfl) (c.def_ 61 rfl) (fun _ _ _ _ _ _ us hl => match us, hl with | [_], _ => rfl)),
   (Hd.def_of X G (c.at_ 159 rfl) (c.def_ 62 rfl) (fun _ _ _ _ _ _ us hl => match us, hl with | [_, _], _ => rfl)),
   (Hd.def_of X G (c.at_ 160 rfl) (c.def_ 63 rfl) (fun _ _ _ _ _ _ us hl => match us, hl with | [_], _ => rfl)),
   (Hd.no_of X G (c.at_ 3 rfl))⟩
theorem f_TMade {K : PySem.W.Frag} {h : Heap} {mg : Str → Option Value} (X : K.In h) (G : h.Ns mainGlobals mg) (c : Hd.Says Hh.facts Hh.defs K) : TMade K mg (a_cs K) (a_cc K) (a_xc K) :=
  ⟨(f_TLad X G c),
   (f_TPartOf X G c),
   (Hd.def_of X G (c.at_ 161 rfl) (c.def_ 64 rfl) (fun _ _ _ _ _ _ us hl => match us, hl with | [_], _ => rfl))⟩
theorem f_TLNew {K : PySem.W.Frag} {h : Heap} {mg : Str → Option Value} (X : K.In h) (G : h.Ns mainGlobals mg) (c : Hd.Says Hh.facts Hh.defs K) : TLNew K mg :=
  ⟨(Hd.def_of X G (c.at_ 162 rfl) (c.def_ 65 rfl) (fun _ _ _ _ _ _ us hl => match us, hl with | [_], _ => rfl))⟩
theorem f_TLH {K : PySem.W.Frag} {h : Heap} {mg : Str → Option Value} (X : K.In h) (G : h.Ns mainGlobals mg) (c : Hd.Says Hh.facts Hh.defs K) : TLH K mg :=
  ⟨(Hd.def_of X G (c.at_ 163 rfl) (c.def_ 66 rfl) (fun _ _ _ _ _ _ us hl => match us, hl with | [_, _], _ => rfl))⟩
theorem f_TLSt {K : PySem.W.Frag} {h : Heap} {mg : Str → Option Value} (X : K.In h) (G : h.Ns mainGlobals mg) (c : Hd.Says Hh.facts Hh.defs K) : TLSt K mg :=
  ⟨(f_TLNew X G c),
   (f_TLH X G c),
   (Hd.def_of X G (c.at_ 164 rfl) (c.def_ 67 rfl) (fun _ _ _ _ _ _ us hl => match us, hl with | [_, _, _], _ => rfl)),
   (Hd.def_of X G (c.at_ 165 rfl) (c.def_ 68 rfl) (fun _ _ _ _ _ _ us hl => match us, hl with | [_, _, _], _ => rfl)),
   (Hd.no_of X G (c.at_ 3 rfl)),
   (Hd.no_of X G (c.at_ 6 rfl)),
   (Hd.no_of X G (c.at_ 166 rfl)),
   (Hd.no_of X G (c.at_ 11 rfl))⟩
theorem f_TWorks {K : PySem.W.Frag} {h : Heap} {mg : Str → Option Value} (X : K.In h) (G : h.Ns mainGlobals mg) (c : Hd.Says Hh.facts Hh.defs K) : TWorks K mg (a_cs K) (a_cc K) (a_xc K) (a_cw K) :=
  ⟨(f_TLad X G c),
   (Hd.cls_of X G (c.at_ 167 rfl)),
   (Hd.na_of (c.at_ 168 rfl)),
   (Hd.na_of (c.at_ 169 rfl)),
   (Hd.na_of (c.at_ 170 rfl)),
   (Hd.na_of (c.at_ 171 rfl)),
   (Hd.met_of (c.at_ 172 rfl) (c.def_ 69 rfl) (fun _ _ _ _ _ _ us hl => match us, hl with | [_, _], _ => rfl))⟩
theorem f_TAsk {K : PySem.W.Frag} {h : Heap} {mg : Str → Option Value} (X : K.In h) (G : h.Ns mainGlobals mg) (c : Hd.Says Hh.facts Hh.defs K) : TAsk K mg (a_cs K) (a_cc K) (a_xc K) (a_cw K) :=
  ⟨(f_TWorks X G c),
   (Hd.met_of (c.at_ 173 rfl) (c.def_ 70 rfl) (fun _ _ _ _ _ _ us hl => match us, hl with | [_, _], _ => rfl)),
   (Hd.met_of (c.at_ 174 rfl) (c.def_ 71 rfl) (fun _ _ _ _ _ _ us hl => match us, hl with | [_, _], _ => rfl))⟩
theorem f_TAsk2 {K : PySem.W.Frag} {h : Heap} {mg : Str → Option Value} (X : K.In h) (G : h.Ns mainGlobals mg) (c : Hd.Says Hh.facts Hh.defs K) : TAsk2 K mg (a_cs K) (a_cc K) (a_xc K) (a_cw K) :=
  ⟨(f_TWorks X G c),
   (Hd.met_of (c.at_ 175 rfl) (c.def_ 72 rfl) (fun _ _ _ _ _ _ us hl => match us, hl with | [_], _ => rfl)),
   (Hd.met_of (c.at_ 176 rfl) (c.def_ 73 rfl) (fun _ _ _ _ _ _ us hl => match us, hl with | [_], _ => rfl)),
   (Hd.no_of X G (c.at_ 177 rfl)),
   (Hd.no_of X G (c.at_ 11 rfl))⟩
theorem f_TTr {K : PySem.W.Frag} {h : Heap} {mg : Str → Option Value} (X : K.In h) (G : h.Ns mainGlobals mg) (c : Hd.Says Hh.facts Hh.defs K) : TTr K mg :=
  ⟨(Hd.def_of X G (c.at_ 178 rfl) (c.def_ 74 rfl) (fun _ _ _ _ _ _ us hl => match us, hl with | [_, _], _ => rfl)),
   (Hd.def_of X G (c.at_ 179 rfl) (c.def_ 75 rfl) (fun _ _ _ _ _ _ us hl => match us, hl with | [_], _ => rfl)),
   (Hd.no_of X G (c.at_ 11 rfl)),
   (Hd.no_of X G (c.at_ 54 rfl)),
   (Hd.no_of X G (c.at_ 55 rfl)),
   (Hd.no_of X G (c.at_ 56 rfl))⟩
theorem f_TTld {K : PySem.W.Frag} {h : Heap} {mg : Str → Option Value} (X : K.In h) (G : h.Ns mainGlobals mg) (c : Hd.Says Hh.facts Hh.defs K) : TTld K mg (a_cs K) (a_cc K) (a_xc K) (a_cw K) :=
  ⟨(f_TAsk X G c),
   (f_TAsk2 X G c),
   (f_TTr X G c),
   (Hd.def_of X G (c.at_ 180 rfl) (c.def_ 76 rfl) (fun _ _ _ _ _ _ us hl => match us, hl with | [_, _], _ => rfl)),
   (Hd.def_of X G (c.at_ 181 rfl) (c.def_ 77 rfl) (fun _ _ _ _ _ _ us hl => match us, hl with | [_, _, _], _ => rfl)),
   (Hd.no_of X G (c.at_ 12 rfl)),
   (Hd.no_of X G (c.at_ 11 rfl)),
   (Hd.no_of X G (c.at_ 54 rfl)),
   (Hd.no_of X G (c.at_ 56 rfl))⟩
theorem f_TKept {K : PySem.W.Frag} {h : Heap} {mg : Str → Option Value} (X : K.In h) (G : h.Ns mainGlobals mg) (c : Hd.Says Hh.facts Hh.defs K) : TKept K mg (a_cs K) (a_cc K) (a_xc K) (a_cw K) :=
  ⟨(f_TWorks X G c),
   (Hd.met_of (c.at_ 182 rfl) (c.def_ 78 rfl) (fun _ _ _ _ _ _ us hl => match us, hl with | [_], _ => rfl)),
   (Hd.met_of (c.at_ 183 rfl) (c.def_ 79 rfl) (fun _ _ _ _ _ _ us hl => match us, hl with | [_, _], _ => rfl)),
   (Hd.no_of X G (c.at_ 177 rfl))⟩
theorem f_TRow {K : PySem.W.Frag} {h : Heap} {mg : Str → Option Value} (X : K.In h) (G : h.Ns mainGlobals mg) (c : Hd.Says Hh.facts Hh.defs K) : TRow K mg :=
  ⟨(f_TCells X G c),
   (Hd.def_of X G (c.at_ 184 rfl) (c.def_ 80 rfl) (fun _ _ _ _ _ _ us hl => match us, hl with | [_, _], _ => rfl)),
   (Hd.no_of X G (c.at_ 11 rfl)),
   (Hd.no_of X G (c.at_ 6 rfl))⟩
theorem f_THolds {K : PySem.W.Frag} {h : Heap} {mg : Str → Option Value} (X : K.In h) (G : h.Ns mainGlobals mg) (c : Hd.Says Hh.facts Hh.defs K) : THolds K mg (a_cs K).cl :=
  ⟨(f_TParts X G c),
   (Hd.met_of (c.at_ 185 rfl) (c.def_ 81 rfl) (fun _ _ _ _ _ _ us hl => match us, hl with | [_, _], _ => rfl)),
   (Hd.met_of (c.at_ 186 rfl) (c.def_ 82 rfl) (fun _ _ _ _ _ _ us hl => match us, hl with | [_, _], _ => rfl)),
   (Hd.met_of (c.at_ 187 rfl) (c.def_ 83 rfl) (fun _ _ _ _ _ _ us hl => match us, hl with | [_, _], _ => rfl)),
   (Hd.met_of (c.at_ 188 rfl) (c.def_ 84 rfl) (fun _ _ _ _ _ _ us hl => match us, hl with | [_, _], _ => rfl)),
   (Hd.met_of (c.at_ 189 rfl) (c.def_ 85 rfl) (fun _ _ _ _ _ _ us hl => match us, hl with | [_, _], _ => rfl)),
   (Hd.no_of X G (c.at_ 190 rfl)),
   (Hd.no_of X G (c.at_ 116 rfl))⟩
theorem f_TScan {K : PySem.W.Frag} {h : Heap} {mg : Str → Option Value} (X : K.In h) (G : h.Ns mainGlobals mg) (c : Hd.Says Hh.facts Hh.defs K) : TScan K mg (a_cs K) (a_cc K) (a_xc K) (a_cw K) :=
  ⟨(f_TWorks X G c),
   (f_THolds X G c),
   (Hd.def_of X G (c.at_ 191 rfl) (c.def_ 86 rfl) (fun _ _ _ _ _ _ us hl => match us, hl with | [_, _], _ => rfl)),
   (Hd.met_of (c.at_ 192 rfl) (c.def_ 87 rfl) (fun _ _ _ _ _ _ us hl => match us, hl with | [_, _, _], _ => rfl)),
   (Hd.met_of (c.at_ 193 rfl) (c.def_ 88 rfl) (fun _ _ _ _ _ _ us hl => match us, hl with | [_, _, _], _ => rfl)),
   (Hd.met_of (c.at_ 194 rfl) (c.def_ 89 rfl) (fun _ _ _ _ _ _ us hl => match us, hl with | [_, _], _ => rfl)),
   (Hd.no_of X G (c.at_ 3 rfl)),
   (Hd.no_of X G (c.at_ 166 rfl)),
   (Hd.no_of X G (c.at_ 195 rfl)),
   (Hd.no_of X G (c.at_ 56 rfl)),
   (Hd.no_of X G (c.at_ 11 rfl))⟩
theorem f_T24 {K : PySem.W.Frag} {h : Heap} {mg : Str → Option Value} (X : K.In h) (G : h.Ns mainGlobals mg) (c : Hd.Says Hh.facts Hh.defs K) : T24 K mg (a_cs K) (a_cc K) (a_xc K) (a_cw K) :=
  ⟨(f_TTld X G c),
   (f_TKept X G c),
   (f_TRow X G c),
   (f_TScan X G c),
   (Hd.def_of X G (c.at_ 196 rfl) (c.def_ 90 rfl) (fun _ _ _ _ _ _ us hl => match us, hl with | [_], _ => rfl)),
   (Hd.def_of X G (c.at_ 197 rfl) (c.def_ 91 rfl) (fun _ _ _ _ _ _ us hl => match us, hl with | [_, _, _], _ => rfl)),
   (Hd.def_of X G (c.at_ 198 rfl) (c.def_ 92 rfl) (fun _ _ _ _ _ _ us hl => match us, hl with | [_, _, _], _ => rfl)),
   (Hd.no_of X G (c.at_ 177 rfl)),
   (Hd.no_of X G (c.at_ 54 rfl)),
   (Hd.no_of X G (c.at_ 11 rfl)),
   (Hd.no_of X G (c.at_ 12 rfl)),
   (Hd.no_of X G (c.at_ 3 rfl))⟩
theorem f_Txt {K : PySem.W.Frag} {h : Heap} {mg : Str → Option Value} (X : K.In h) (G : h.Ns mainGlobals mg) (c : Hd.Says Hh.facts Hh.defs K) : Txt K mg (a_cs K) (a_cc K) (a_xc K) (a_cw K) :=
  ⟨(Hd.law_of X G (c.at_ 0 rfl) (c.def_ 0 rfl) (fun _ _ _ _ _ _ _ => rfl)),
   (f_TDraw X G c),
   (f_TMade X G c),
   (f_TLSt X G c),
   (f_T24 X G c),
   (Hd.def_of X G (c.at_ 199 rfl) (c.def_ 93 rfl) (fun _ _ _ _ _ _ us hl => match us, hl with | [_, _, _, _], _ => rfl)),
   (Hd.def_of X G (c.at_ 200 rfl) (c.def_ 94 rfl) (fun _ _ _ _ _ _ us hl => match us, hl with | [_, _, _, _, _, _], _ => rfl)),
   (Hd.no_of X G (c.at_ 3 rfl)),
   (Hd.no_of X G (c.at_ 6 rfl)),
   (Hd.no_of X G (c.at_ 12 rfl)),
   (Hd.no_of X G (c.at_ 11 rfl))⟩
theorem law_fin {P : Program} {w : World} {K : PySem.W.Frag} {mg : Str → Option Value} {h : Heap} {fa : Addr} (X : K.In h) (G : h.Ns mainGlobals mg) (hfa : mg "law" = some (.ref fa)) (c : Hd.Says Hh.facts Hh.defs K) :
    ∃ fd : FuncData, (∀ (s : Shared) (u : Value), BindsTo s fd ⟨[u], []⟩ [("_law_script", u)]) ∧ ∀ base : Heap, K.In base → base.Ns mainGlobals mg → FnOk P w K mg base CX0 50 fa fd ["_law_script"] (spLaw K) :=
  law_end (f_Txt X G c).law hfa fun base f fd F => ok_law (f_Txt X G c) F
end My
end
open PySem PySem.W PySem.Calls PyProof.Rows
set_option maxRecDepth 100000 in
set_option maxHeartbeats 0 in
theorem PySem.Challenge.cw_rungworks_k24_whole_plain_reading_holds : PySem.Challenge.rw_rungworks_k24_whole_plain_reading.Holds := by
  w_on; o_law
  refine HandSHeadRun.head_any (r := OpenLaw.row PySem.Challenge.rw_rungworks_k24_whole_plain_reading) (q := view (OpenLaw.row PySem.Challenge.rw_rungworks_k24_whole_plain_reading).prog [73]) (H := Hh.hk) (ob := Hh.ob) (M := 9000) (loose := Hh.names) (d := HandSHeadRun.topDef (OpenLaw.row PySem.Challenge.rw_rungworks_k24_whole_plain_reading).prog 73) (kwd := []) Hh.ob_eq
    (by kernel_rfl) (fun s => by kernel_rfl) Hh.run (by kernel_rfl) (by kernel_rfl) (by kernel_rfl) (by rfl) (by first | assumption | decide +kernel) (by decide +kernel) ⟨rfl, rfl, rfl, rfl, rfl, by decide +kernel⟩ ?hw ?hc
  case hw => w_witness2
  case hc =>
    exact Hd.walk (l := PySem.Challenge.rw_rungworks_k24_whole_plain_reading) (n := Hh.addrs) (k := 50) (p := "_law_script") (B := Hh.facts) (fn := Hh.defs) ⟨rfl, by decide, by decide⟩ rfl (by kernel_rfl) (by kernel_rfl) fun w mg fa h K X G hmg c => My.law_fin X G hmg c
#print axioms PySem.Challenge.cw_rungworks_k24_whole_plain_reading_holds

