import PyProof.Rows.All
import Wide.All
import OpenK.AllK
import Wide.FinOn
import HandS.Defaults
import HandS.Head0
import HandS.Head1
import HandS.Head2
import HandS.HeadEnd
import HandS.HeadHook1
import HandS.HeadHook2
import HandS.HeadNt
import HandS.ForMost
import HandS.Codes
import HandS.Style
import HandS.IsInst
import KE.KDictSum
import HandS.Conv
import HandS.ExcOwn
import HandS.ExcIs
import HandS.HotCalls
import HandS.Strs
import HandS.Zip
import HandS.Rev
import HandS.DictComp
import PyProof.NeKinds
import KE.KEqNest
import HandS.Finally
import PyProof.DictUpdate
import HandS.TryOnly
import PyProof.EnumMake
import PyProof.Draws
import KE.GoesMore
import KE.BitLaws
import HandS.Text
import HandS.Iter
import HandS.Walk
import HandS.WideBits
import HandS.CallSlots
import HandS.ListItems
import HandS.Flow
import HandS.TupMul
import HandS.SetKeys
import HandS.TupAny
import HandS.More
import PySem.Challenge.RW_rungworks_k55_whole_states_told
set_option Elab.async false
set_option linter.all false
set_option maxRecDepth 100000
set_option maxHeartbeats 2000000
/-! The head by one kernel run: every fact a law leans on is one Bool of the part of the heap that the module's names reach. -/
namespace Hd
open PySem PySem.Spec PyProof.Rows L2
/-! ## what is looked at -/
def tells (K : PySem.W.Frag) : List He5.DefA → List He5.FnW
  | [] => []
  | d :: r => He5.fnA K (d.at_ K) :: tells K r
def vals : List He5.DefA → List He5.FnW
  | [] => []
  | d :: r => d.val :: vals r
theorem tells_eq (K : PySem.W.Frag) : ∀ l, tells K l = l.map fun d => He5.fnA K (d.at_ K)
  | [] => rfl
  | d :: r => congrArg (He5.fnA K (d.at_ K) :: ·) (tells_eq K r)
theorem vals_eq : ∀ l, vals l = l.map He5.DefA.val
  | [] => rfl
  | d :: r => congrArg (d.val :: ·) (vals_eq r)
/-- not by List.map: of two maps over one list the kernel compares the functions first, over all of the heap -/
def seen (B : PySem.W.Frag → List Bool) (fn : List He5.DefA) (K : PySem.W.Frag) : He.AlD := ((B K).all (fun b => b) && fn.all fun d => d.ok K, tells K fn)
def want (fn : List He5.DefA) : He.AlD := (true, vals fn)
def Says (B : PySem.W.Frag → List Bool) (fn : List He5.DefA) (K : PySem.W.Frag) : Prop := seen B fn K = want fn
/-- n: the addresses that are looked at -/
def seenG (n : List Addr) (B : PySem.W.Frag → List Bool) (fn : List He5.DefA) (g : Addr → Option Obj) : He.AlD := seen B fn (He.frG g n)
def hook (n : List Addr) (B : PySem.W.Frag → List Bool) (fn : List He5.DefA) : PySem.W.Hook where
  α := He.AlD
  obs := fun s => seenG n B fn s.heap.get?
  val := fun _ => want fn
  says := fun _ h => ∃ K : PySem.W.Frag, K.In h ∧ Says B fn K
  of := fun _ _ e => ⟨_, He.frG_in, e⟩
  keeps := fun _ _ _ ⟨K, i, c⟩ k => ⟨K, PySem.W.Frag.In.keeps i k, c⟩
theorem seenG_eq {n : List Addr} {B : PySem.W.Frag → List Bool} {fn : List He5.DefA} {g : Addr → Option Obj} {s : Shared} (h : ∀ a, g a = s.heap.get? a) : seenG n B fn g = (hook n B fn).obs s := by
  obtain rfl : g = s.heap.get? := funext h
  rfl
section
variable {B : PySem.W.Frag → List Bool} {fn : List He5.DefA} {K : PySem.W.Frag}
theorem Says.at_ (c : Says B fn K) (i : Nat) {b : Bool} (h : (B K)[i]? = some b) : b = true :=
  List.all_eq_true.mp (Bool.and_eq_true_iff.mp (congrArg Prod.fst c)).1 b (List.mem_of_getElem? h)
theorem Says.def_ (c : Says B fn K) (i : Nat) {d : He5.DefA} (h : fn[i]? = some d) : ∃ fd, FunD K d.name d.qual d.params d.body d.scope (d.dvs K) (d.kws K) (d.at_ K) fd := by
  have e : (tells K fn)[i]? = (vals fn)[i]? := congrArg (fun l => l[i]?) (congrArg Prod.snd c)
  rw [tells_eq, vals_eq] at e
  rw [List.getElem?_map, List.getElem?_map, h] at e
  exact He5.DefA.funD (Option.some.inj e) (List.all_eq_true.mp (Bool.and_eq_true_iff.mp (congrArg Prod.fst c)).2 d (List.mem_of_getElem? h))
end
/-! ## facts as Bools -/
section
variable (K : PySem.W.Frag)
/-- the module's x is the object at a -/
def gB (x : Str) (a : Addr) : Bool := He.eqO (PySem.W.nsIn K mainGlobals x) (some (some (.ref a)))
def noB (x : Str) : Bool := He.eqO (PySem.W.nsIn K mainGlobals x) (some none)
def conB (x : Str) (v : V) : Bool := match PySem.W.nsIn K mainGlobals x with
  | some (some u) => He.relB v u
  | _ => false
def tupB (x : Str) (vs : List V) : Bool := match PySem.W.nsIn K mainGlobals x with
  | some (some (.ref a)) => (match K.lookup a with
    | some ⟨.type c, _, .seq its _, _⟩ => decide (c = "tuple") && (decide (its.size ≤ sizeLine) && He.relAll vs its.toList)
    | _ => false)
  | _ => false
def clsB (x : Str) (C : Addr) : Bool := gB K x C && (PySem.W.plainGet K C Str.empty && (PySem.W.hasDictIn K C && (PySem.W.plainOver K C && (He.eqO (PySem.W.findIn K (.ref C) "__setattr__") (some (some (.builtin "object.__setattr__"))) &&
  (He.eqO (PySem.W.findIn K (.ref C) "__class__") (some (some (.builtin "object.__class__"))) && (He.eqO (PySem.W.specialIn K (.builtin "object.__class__") "__get__") (some (some (.builtin "getset_descriptor.__get__"))) &&
  (decide (PySem.W.takesIn K (.builtin "object.__class__") = some true) && (decide (PySem.W.mroIn K C (.type "object") = some true) && (PySem.W.makesIn K C && PySem.W.keepIn K (.ref C))))))))))
def errB (x : Str) (C : Addr) : Bool := gB K x C && (decide (PySem.W.subIn K (.ref C) (.type "BaseException") = some true) && (decide (PySem.W.typeIn K (.ref C) = some (.type "type")) && PySem.W.hasDictIn K C))
def mroB (C L : Addr) : Bool := match PySem.W.clsIn K C with
  | some cd => decide (cd.mro = [.ref C, .ref L, .type "ValueError", .type "Exception", .type "BaseException", .type "object"])
  | none => false
def excB (x : Str) (C L : Addr) : Bool := gB K x C && (PySem.W.excIn K C [.type "ValueError", .type "Exception", .type "BaseException", .type "object"] "ValueError.__new__" && (PySem.W.keepIn K (.ref C) &&
  (He.eqO (PySem.W.findIn K (.ref C) "__getattribute__") (some (some (.builtin "BaseException.__getattribute__"))) && (He.eqO (PySem.W.findIn K (.ref C) "__getattr__") (some none) && (decide (PySem.W.subIn K (.ref C) (.type "BaseException") = some true) &&
  (PySem.W.hasDictIn K C && (He.eqO (PySem.W.findIn K (.ref C) "__class__") (some (some (.builtin "object.__class__"))) && (He.eqO (PySem.W.specialIn K (.builtin "object.__class__") "__get__") (some (some (.builtin "getset_descriptor.__get__"))) &&
  (decide (PySem.W.takesIn K (.builtin "object.__class__") = some true) && (decide (PySem.W.mroIn K C (.type "object") = some true) && (decide (PySem.W.typeIn K (.ref C) = some (.type "type")) && mroB K C L)))))))))))
def naB (C : Addr) (x : Str) : Bool := He.eqO (PySem.W.findIn K (.ref C) x) (some none)
def oneB (a b : Addr) (r : Bool) : Bool := decide (PySem.W.kitOne K (.ref a) (.ref b) = some r)
def metB (C : Addr) (m : Str) : Bool := He.eqO (PySem.W.findIn K (.ref C) m) (some (some (.ref (He.ma K C m)))) && (PySem.W.isFn K (.ref (He.ma K C m)) && PySem.W.keepIn K (.ref (He.ma K C m)))
def ca (C : Addr) (m : Str) : Addr := match PySem.W.findCls K (.ref C) (.type "type") m with
  | some (.val (.ref f)) => f
  | _ => 0
def cfnB (C : Addr) (m : Str) : Bool := PySem.W.readsIn K C (.type "type") && (He.eqO (PySem.W.specialIn K (.ref C) "__getattribute__") (some (some (.builtin "type.__getattribute__"))) && (match PySem.W.findCls K (.ref C) (.type "type") m with
  | some (.val (.ref _)) => true
  | _ => false))
end
theorem two {a b : Bool} (h : (a && b) = true) : a = true ∧ b = true := Bool.and_eq_true_iff.mp h
/-! ## defs -/
/-- a def as the text has it -/
def dA (at_ : PySem.W.Frag → Addr) (name qual : Str) (st : Stmt) : He5.DefA := ⟨at_, name, qual, defArgs st, defBody st, defScope st, [], []⟩
/-! ## the run in parts -/
noncomputable def endOf (r : PySem.W.OpenRow) (M : Nat) (w : World) (os : OsState) : Option PySem.W.SharedT := HandSHeadRun.endF (HandSHeadRun.stepQ (HandSHeadRun.denQ HandSHeadRun.tabQ) r.prog w) M r.prog w os
/-- some of the facts hold behind the top -/
def Part (r : PySem.W.OpenRow) (M : Nat) (n : List Addr) (B : PySem.W.Frag → List Bool) (fn : List He5.DefA) (w : World) : Prop := ∀ os : OsState, (endOf r M w os).map (fun s => seenG n B fn (HandSHeadRun.getT s)) = some (want fn)
theorem seen_app {B1 B2 : PySem.W.Frag → List Bool} {f1 f2 : List He5.DefA} {K : PySem.W.Frag} (h1 : seen B1 f1 K = want f1) (h2 : seen B2 f2 K = want f2) : seen (fun K => B1 K ++ B2 K) (f1 ++ f2) K = want (f1 ++ f2) := by
  obtain ⟨a1, b1⟩ := Prod.mk.inj h1
  obtain ⟨a2, b2⟩ := Prod.mk.inj h2
  obtain ⟨c1, d1⟩ := two a1
  obtain ⟨c2, d2⟩ := two a2
  refine Prod.ext ?_ ?_
  · show ((B1 K ++ B2 K).all (fun b => b) && (f1 ++ f2).all fun d => d.ok K) = true
    rw [List.all_append, List.all_append, c1, c2, d1, d2]
    rfl
  · show tells K (f1 ++ f2) = vals (f1 ++ f2)
    rw [tells_eq, vals_eq] at b1 b2 ⊢
    rw [List.map_append, List.map_append, b1, b2]
theorem Part.app {r : PySem.W.OpenRow} {M : Nat} {n : List Addr} {B1 B2 : PySem.W.Frag → List Bool} {f1 f2 : List He5.DefA} {w : World} (h1 : Part r M n B1 f1 w) (h2 : Part r M n B2 f2 w) : Part r M n (fun K => B1 K ++ B2 K) (f1 ++ f2) w := fun os => by
  have a := h1 os
  have b := h2 os
  cases e : endOf r M w os with
  | none =>
    rw [e] at a
    cases a
  | some s =>
    rw [e] at a b
    exact congrArg some (seen_app (Option.some.inj a) (Option.some.inj b))
theorem run_of {r : PySem.W.OpenRow} {q : Program} {M : Nat} {n : List Addr} {B : PySem.W.Frag → List Bool} {fn : List He5.DefA} {loose : List Str} {w : World} (h0 : HandSHeadRun.RunEq r q PySem.W.Hook.none (fun _ => ()) M loose w) (h1 : Part r M n B fn w) :
    HandSHeadRun.RunEq r q (hook n B fn) (fun s => seenG n B fn (HandSHeadRun.getT s)) M loose w := fun os => by
  have a := h0 os
  have b := h1 os
  unfold endOf at b
  cases e : HandSHeadRun.endF (HandSHeadRun.stepQ (HandSHeadRun.denQ HandSHeadRun.tabQ) r.prog w) M r.prog w os with
  | none =>
    rw [e] at a
    cases a
  | some s =>
    rw [e] at a b
    have a1 := Option.some.inj a
    have b1 := Option.some.inj b
    obtain ⟨a2, a3⟩ := Prod.mk.inj a1
    obtain ⟨a4, _⟩ := Prod.mk.inj a3
    exact congrArg some (Prod.ext a2 (Prod.ext a4 b1))
end Hd

set_option Elab.async false
set_option linter.all false
set_option maxRecDepth 100000
set_option maxHeartbeats 2000000
section
open PySem PySem.Spec L2
namespace Hh
def top (i : Nat) : Stmt := PySem.Challenge.pw_rungworks_k55_whole_states_told.main.body.getD i (.Pass ⟨0, 0, 0, 0⟩)
abbrev sSIGNS : Str := "abcdefghijklmnopqrstuvwxyz"
def keptL : List Str := ["on", "off", "and", "or", "not", "set", "reset", "timer", "counter", "inputs", "outputs"]
def keptV : List V := keptL.map V.str
def facts0 (K : PySem.W.Frag) : List Bool := [Hd.gB K "law" (He.ga K "law"),
  Hd.gB K "is_word" (He.ga K "is_word"),
  Hd.gB K "is_name" (He.ga K "is_name"),
  Hd.conB K "SIGNS" (.str sSIGNS),
  Hd.conB K "MOST_SIGNS" (.int 8),
  Hd.tupB K "KEPT" keptV,
  Hd.noB K "len",
  Hd.clsB K "Coil" (He.ga K "Coil"),
  Hd.clsB K "Latch" (He.ga K "Latch"),
  Hd.clsB K "Unlatch" (He.ga K "Unlatch"),
  Hd.clsB K "Timer" (He.ga K "Timer"),
  Hd.clsB K "Counter" (He.ga K "Counter"),
  Hd.clsB K "End" (He.ga K "End"),
  Hd.naB K (He.ga K "Coil") "name",
  Hd.naB K (He.ga K "Latch") "name",
  Hd.naB K (He.ga K "Unlatch") "name",
  Hd.naB K (He.ga K "Timer") "name",
  Hd.naB K (He.ga K "Counter") "name",
  Hd.naB K (He.ga K "Timer") "most",
  Hd.naB K (He.ga K "Counter") "most",
  Hd.metB K (He.ga K "Coil") "ahead",
  Hd.metB K (He.ga K "Latch") "ahead",
  Hd.metB K (He.ga K "Unlatch") "ahead",
  Hd.metB K (He.ga K "Timer") "ahead",
  Hd.metB K (He.ga K "Counter") "ahead",
  Hd.metB K (He.ga K "Coil") "behind",
  Hd.metB K (He.ga K "Latch") "behind",
  Hd.metB K (He.ga K "Unlatch") "behind",
  Hd.metB K (He.ga K "Timer") "behind",
  Hd.metB K (He.ga K "Counter") "behind",
  Hd.metB K (He.ga K "Coil") "text",
  Hd.metB K (He.ga K "Latch") "text",
  Hd.metB K (He.ga K "Unlatch") "text",
  Hd.metB K (He.ga K "Timer") "text",
  Hd.metB K (He.ga K "Counter") "text",
  Hd.metB K (He.ga K "Coil") "__init__",
  Hd.metB K (He.ga K "Latch") "__init__",
  Hd.metB K (He.ga K "Unlatch") "__init__",
  Hd.metB K (He.ga K "Timer") "__init__",
  Hd.metB K (He.ga K "Counter") "__init__",
  Hd.cfnB K (He.ga K "End") "__init__",
  decide ([(He.ga K "Coil"), (He.ga K "Latch"), (He.ga K "Unlatch"), (He.ga K "Timer"), (He.ga K "Counter")].Nodup),
  Hd.noB K "isinstance",
  Hd.noB K "int",
  Hd.noB K "bool",
  Hd.noB K "str",
  Hd.conB K "MOST_COUNT" (.int 9),
  Hd.oneB K (He.ga K "Coil") (He.ga K "Coil") true,
  Hd.oneB K (He.ga K "Coil") (He.ga K "Latch") false,
  Hd.oneB K (He.ga K "Coil") (He.ga K "Unlatch") false,
  Hd.oneB K (He.ga K "Coil") (He.ga K "Timer") false,
  Hd.oneB K (He.ga K "Coil") (He.ga K "Counter") false,
  Hd.oneB K (He.ga K "Latch") (He.ga K "Coil") false,
  Hd.oneB K (He.ga K "Latch") (He.ga K "Latch") true,
  Hd.oneB K (He.ga K "Latch") (He.ga K "Unlatch") false,
  Hd.oneB K (He.ga K "Latch") (He.ga K "Timer") false,
  Hd.oneB K (He.ga K "Latch") (He.ga K "Counter") false,
  Hd.oneB K (He.ga K "Unlatch") (He.ga K "Coil") false,
  Hd.oneB K (He.ga K "Unlatch") (He.ga K "Latch") false,
  Hd.oneB K (He.ga K "Unlatch") (He.ga K "Unlatch") true,
  Hd.oneB K (He.ga K "Unlatch") (He.ga K "Timer") false,
  Hd.oneB K (He.ga K "Unlatch") (He.ga K "Counter") false,
  Hd.oneB K (He.ga K "Timer") (He.ga K "Coil") false,
  Hd.oneB K (He.ga K "Timer") (He.ga K "Latch") false,
  Hd.oneB K (He.ga K "Timer") (He.ga K "Unlatch") false,
  Hd.oneB K (He.ga K "Timer") (He.ga K "Timer") true,
  Hd.oneB K (He.ga K "Timer") (He.ga K "Counter") false,
  Hd.oneB K (He.ga K "Counter") (He.ga K "Coil") false,
  Hd.oneB K (He.ga K "Counter") (He.ga K "Latch") false,
  Hd.oneB K (He.ga K "Counter") (He.ga K "Unlatch") false,
  Hd.oneB K (He.ga K "Counter") (He.ga K "Timer") false,
  Hd.oneB K (He.ga K "Counter") (He.ga K "Counter") true,
  Hd.oneB K (He.ga K "Coil") (He.ga K "End") true,
  Hd.oneB K (He.ga K "Latch") (He.ga K "End") true,
  Hd.oneB K (He.ga K "Unlatch") (He.ga K "End") true,
  Hd.oneB K (He.ga K "Timer") (He.ga K "End") true,
  Hd.oneB K (He.ga K "Counter") (He.ga K "End") true,
  Hd.errB K "LadderError" (He.ga K "LadderError"),
  Hd.excB K "NoName" (He.ga K "NoName") (He.ga K "LadderError"),
  Hd.excB K "NoPart" (He.ga K "NoPart") (He.ga K "LadderError"),
  Hd.excB K "NoEnd" (He.ga K "NoEnd") (He.ga K "LadderError"),
  Hd.excB K "NoLadder" (He.ga K "NoLadder") (He.ga K "LadderError"),
  Hd.excB K "NoRow" (He.ga K "NoRow") (He.ga K "LadderError"),
  Hd.excB K "NoState" (He.ga K "NoState") (He.ga K "LadderError"),
  Hd.excB K "TooMany" (He.ga K "TooMany") (He.ga K "LadderError"),
  decide ([(He.ga K "LadderError"), (He.ga K "NoName"), (He.ga K "NoPart"), (He.ga K "NoEnd"), (He.ga K "NoLadder"), (He.ga K "NoRow"), (He.ga K "NoState"), (He.ga K "TooMany")].Nodup),
  Hd.clsB K "Rung" (He.ga K "Rung"),
  Hd.clsB K "Ladder" (He.ga K "Ladder"),
  Hd.clsB K "Counting" (He.ga K "Counting"),
  Hd.oneB K (He.ga K "Coil") (He.ga K "Counting") false,
  Hd.oneB K (He.ga K "Latch") (He.ga K "Counting") false,
  Hd.oneB K (He.ga K "Unlatch") (He.ga K "Counting") false,
  Hd.oneB K (He.ga K "Timer") (He.ga K "Counting") true,
  Hd.oneB K (He.ga K "Counter") (He.ga K "Counting") true,
  Hd.naB K (He.ga K "Rung") "part",
  Hd.naB K (He.ga K "Rung") "end",
  Hd.naB K (He.ga K "Ladder") "inputs",
  Hd.naB K (He.ga K "Ladder") "outputs",
  Hd.naB K (He.ga K "Ladder") "rungs",
  Hd.gB K "need_between" (He.ga K "need_between"),
  Hd.gB K "need_single" (He.ga K "need_single"),
  Hd.gB K "need_own" (He.ga K "need_own")]
def facts1 (K : PySem.W.Frag) : List Bool := [Hd.metB K (He.ga K "Rung") "__init__",
  Hd.metB K (He.ga K "Ladder") "__init__",
  Hd.metB K (He.ga K "Ladder") "written_names",
  Hd.noB K "set",
  Hd.noB K "tuple",
  Hd.noB K "any",
  Hd.conB K "MOST_NAMES" (.int 6),
  Hd.conB K "MOST_RUNGS" (.int 30),
  Hd.conB K "MOST_WRITTEN" (.int 20),
  Hd.clsB K "Works" (He.ga K "Works"),
  Hd.naB K (He.ga K "Works") "ladder",
  Hd.naB K (He.ga K "Works") "bits",
  Hd.naB K (He.ga K "Works") "counts",
  Hd.naB K (He.ga K "Works") "seen",
  Hd.metB K (He.ga K "Works") "__init__",
  Hd.gB K "counting_ends" (He.ga K "counting_ends"),
  Hd.gB K "bits_of" (He.ga K "bits_of"),
  Hd.gB K "width" (He.ga K "width"),
  Hd.gB K "state_of" (He.ga K "state_of"),
  Hd.gB K "pieces" (He.ga K "pieces"),
  Hd.metB K (He.ga K "Works") "kept",
  Hd.metB K (He.ga K "Works") "put_back",
  Hd.noB K "dict",
  Hd.conB K "COUNT_BITS" (.int 4),
  Hd.noB K "sum",
  Hd.gB K "works_at" (He.ga K "works_at"),
  Hd.clsB K "Fixed" (He.ga K "Fixed"),
  Hd.clsB K "Contact" (He.ga K "Contact"),
  Hd.clsB K "Turned" (He.ga K "Turned"),
  Hd.clsB K "Series" (He.ga K "Series"),
  Hd.clsB K "Branch" (He.ga K "Branch"),
  decide ([(He.ga K "Fixed"), (He.ga K "Contact"), (He.ga K "Turned"), (He.ga K "Series"), (He.ga K "Branch")].Nodup),
  Hd.naB K (He.ga K "Fixed") "value",
  Hd.naB K (He.ga K "Contact") "name",
  Hd.naB K (He.ga K "Turned") "part",
  Hd.naB K (He.ga K "Series") "parts",
  Hd.naB K (He.ga K "Branch") "parts",
  Hd.metB K (He.ga K "Fixed") "inner",
  Hd.metB K (He.ga K "Contact") "inner",
  Hd.metB K (He.ga K "Turned") "inner",
  Hd.metB K (He.ga K "Series") "inner",
  Hd.metB K (He.ga K "Branch") "inner",
  Hd.metB K (He.ga K "Fixed") "size",
  Hd.metB K (He.ga K "Contact") "size",
  Hd.metB K (He.ga K "Turned") "size",
  Hd.metB K (He.ga K "Series") "size",
  Hd.metB K (He.ga K "Branch") "size",
  Hd.metB K (He.ga K "Fixed") "depth",
  Hd.metB K (He.ga K "Contact") "depth",
  Hd.metB K (He.ga K "Turned") "depth",
  Hd.metB K (He.ga K "Series") "depth",
  Hd.metB K (He.ga K "Branch") "depth",
  Hd.metB K (He.ga K "Turned") "bounded",
  Hd.metB K (He.ga K "Series") "bounded",
  Hd.metB K (He.ga K "Branch") "bounded",
  Hd.noB K "max",
  Hd.conB K "MOST_SIZE" (.int 60),
  Hd.conB K "MOST_DEEP" (.int 20),
  Hd.metB K (He.ga K "Fixed") "holds",
  Hd.metB K (He.ga K "Contact") "holds",
  Hd.metB K (He.ga K "Turned") "holds",
  Hd.metB K (He.ga K "Series") "holds",
  Hd.metB K (He.ga K "Branch") "holds",
  Hd.noB K "all",
  Hd.gB K "need_row" (He.ga K "need_row"),
  Hd.metB K (He.ga K "Works") "act",
  Hd.metB K (He.ga K "Works") "count_on",
  Hd.metB K (He.ga K "Works") "scan",
  Hd.noB K "min",
  Hd.noB K "zip",
  Hd.gB K "rows" (He.ga K "rows"),
  Hd.gB K "row_of" (He.ga K "row_of"),
  Hd.gB K "row_number" (He.ga K "row_number"),
  Hd.noB K "range",
  Hd.noB K "enumerate",
  Hd.metB K (He.ga K "Works") "image",
  Hd.metB K (He.ga K "Works") "answers",
  Hd.gB K "step" (He.ga K "step"),
  Hd.gB K "reached" (He.ga K "reached"),
  Hd.gB K "run_to" (He.ga K "run_to"),
  Hd.metB K (He.ga K "Fixed") "__init__",
  Hd.metB K (He.ga K "Contact") "__init__",
  Hd.metB K (He.ga K "Turned") "__init__",
  Hd.metB K (He.ga K "Series") "__init__",
  Hd.metB K (He.ga K "Branch") "__init__",
  Hd.gB K "single" (He.ga K "single"),
  Hd.gB K "joined" (He.ga K "joined"),
  Hd.gB K "part_of" (He.ga K "part_of"),
  Hd.gB K "_law_end" (He.ga K "_law_end"),
  Hd.gB K "_law_made" (He.ga K "_law_made"),
  Hd.gB K "_law_ends" (He.ga K "_law_ends"),
  Hd.gB K "_law_holds" (He.ga K "_law_holds"),
  Hd.gB K "_law_begun" (He.ga K "_law_begun"),
  Hd.gB K "_law_acted" (He.ga K "_law_acted"),
  Hd.gB K "_law_scanned" (He.ga K "_law_scanned"),
  Hd.gB K "_law_state" (He.ga K "_law_state"),
  Hd.gB K "_law_default" (He.ga K "_law_default"),
  Hd.gB K "_law_long_right" (He.ga K "_law_long_right"),
  Hd.gB K "_law_cell_at" (He.ga K "_law_cell_at"),
  Hd.gB K "_law_mixed" (He.ga K "_law_mixed"),
  Hd.gB K "_law_tree" (He.ga K "_law_tree"),
  Hd.gB K "_law_names" (He.ga K "_law_names"),
  Hd.gB K "_law_small" (He.ga K "_law_small")]
def facts : PySem.W.Frag → List Bool := (fun K => facts0 K ++ facts1 K)
def defs0 : List He5.DefA := [Hd.dA (fun K => He.ga K "law") "law" "law" (top 83),
  Hd.dA (fun K => He.ga K "is_word") "is_word" "is_word" (top 14),
  Hd.dA (fun K => He.ga K "is_name") "is_name" "is_name" (top 15),
  Hd.dA (fun K => He.ma K (He.ga K "Coil") "ahead") "ahead" "End.ahead" (inClass (top 18) 1),
  Hd.dA (fun K => He.ma K (He.ga K "Latch") "ahead") "ahead" "Latch.ahead" (inClass (top 20) 0),
  Hd.dA (fun K => He.ma K (He.ga K "Unlatch") "ahead") "ahead" "Unlatch.ahead" (inClass (top 21) 0),
  Hd.dA (fun K => He.ma K (He.ga K "Timer") "ahead") "ahead" "Timer.ahead" (inClass (top 23) 0),
  Hd.dA (fun K => He.ma K (He.ga K "Counter") "ahead") "ahead" "Counter.ahead" (inClass (top 24) 0),
  Hd.dA (fun K => He.ma K (He.ga K "Coil") "behind") "behind" "End.behind" (inClass (top 18) 2),
  Hd.dA (fun K => He.ma K (He.ga K "Latch") "behind") "behind" "End.behind" (inClass (top 18) 2),
  Hd.dA (fun K => He.ma K (He.ga K "Unlatch") "behind") "behind" "End.behind" (inClass (top 18) 2),
  Hd.dA (fun K => He.ma K (He.ga K "Timer") "behind") "behind" "Counting.behind" (inClass (top 22) 1),
  Hd.dA (fun K => He.ma K (He.ga K "Counter") "behind") "behind" "Counting.behind" (inClass (top 22) 1),
  Hd.dA (fun K => He.ma K (He.ga K "Coil") "text") "text" "End.text" (inClass (top 18) 3),
  Hd.dA (fun K => He.ma K (He.ga K "Latch") "text") "text" "End.text" (inClass (top 18) 3),
  Hd.dA (fun K => He.ma K (He.ga K "Unlatch") "text") "text" "End.text" (inClass (top 18) 3),
  Hd.dA (fun K => He.ma K (He.ga K "Timer") "text") "text" "End.text" (inClass (top 18) 3),
  Hd.dA (fun K => He.ma K (He.ga K "Counter") "text") "text" "End.text" (inClass (top 18) 3),
  Hd.dA (fun K => He.ma K (He.ga K "Coil") "__init__") "__init__" "End.__init__" (inClass (top 18) 0),
  Hd.dA (fun K => He.ma K (He.ga K "Latch") "__init__") "__init__" "End.__init__" (inClass (top 18) 0),
  Hd.dA (fun K => He.ma K (He.ga K "Unlatch") "__init__") "__init__" "End.__init__" (inClass (top 18) 0),
  Hd.dA (fun K => He.ma K (He.ga K "Timer") "__init__") "__init__" "Counting.__init__" (inClass (top 22) 0),
  Hd.dA (fun K => He.ma K (He.ga K "Counter") "__init__") "__init__" "Counting.__init__" (inClass (top 22) 0),
  Hd.dA (fun K => Hd.ca K (He.ga K "End") "__init__") "__init__" "End.__init__" (inClass (top 18) 0),
  Hd.dA (fun K => He.ga K "need_between") "need_between" "need_between" (top 49),
  Hd.dA (fun K => He.ga K "need_single") "need_single" "need_single" (top 50),
  Hd.dA (fun K => He.ga K "need_own") "need_own" "need_own" (top 51),
  Hd.dA (fun K => He.ma K (He.ga K "Rung") "__init__") "__init__" "Rung.__init__" (inClass (top 48) 0),
  Hd.dA (fun K => He.ma K (He.ga K "Ladder") "__init__") "__init__" "Ladder.__init__" (inClass (top 52) 0),
  Hd.dA (fun K => He.ma K (He.ga K "Ladder") "written_names") "written_names" "Ladder.written_names" (inClass (top 52) 1),
  Hd.dA (fun K => He.ma K (He.ga K "Works") "__init__") "__init__" "Works.__init__" (inClass (top 27) 0),
  Hd.dA (fun K => He.ga K "counting_ends") "counting_ends" "counting_ends" (top 30),
  Hd.dA (fun K => He.ga K "bits_of") "bits_of" "bits_of" (top 31),
  Hd.dA (fun K => He.ga K "width") "width" "width" (top 32),
  Hd.dA (fun K => He.ga K "state_of") "state_of" "state_of" (top 33),
  Hd.dA (fun K => He.ga K "pieces") "pieces" "pieces" (top 34),
  Hd.dA (fun K => He.ma K (He.ga K "Works") "kept") "kept" "Works.kept" (inClass (top 27) 8),
  Hd.dA (fun K => He.ma K (He.ga K "Works") "put_back") "put_back" "Works.put_back" (inClass (top 27) 9),
  Hd.dA (fun K => He.ga K "works_at") "works_at" "works_at" (top 35),
  Hd.dA (fun K => He.ma K (He.ga K "Fixed") "inner") "inner" "Part.inner" (inClass (top 56) 0),
  Hd.dA (fun K => He.ma K (He.ga K "Contact") "inner") "inner" "Part.inner" (inClass (top 56) 0),
  Hd.dA (fun K => He.ma K (He.ga K "Turned") "inner") "inner" "Turned.inner" (inClass (top 59) 1),
  Hd.dA (fun K => He.ma K (He.ga K "Series") "inner") "inner" "Group.inner" (inClass (top 60) 1),
  Hd.dA (fun K => He.ma K (He.ga K "Branch") "inner") "inner" "Group.inner" (inClass (top 60) 1),
  Hd.dA (fun K => He.ma K (He.ga K "Fixed") "size") "size" "Part.size" (inClass (top 56) 4),
  Hd.dA (fun K => He.ma K (He.ga K "Contact") "size") "size" "Part.size" (inClass (top 56) 4),
  Hd.dA (fun K => He.ma K (He.ga K "Turned") "size") "size" "Part.size" (inClass (top 56) 4),
  Hd.dA (fun K => He.ma K (He.ga K "Series") "size") "size" "Part.size" (inClass (top 56) 4)]
def defs1 : List He5.DefA := [Hd.dA (fun K => He.ma K (He.ga K "Branch") "size") "size" "Part.size" (inClass (top 56) 4),
  Hd.dA (fun K => He.ma K (He.ga K "Fixed") "depth") "depth" "Part.depth" (inClass (top 56) 5),
  Hd.dA (fun K => He.ma K (He.ga K "Contact") "depth") "depth" "Part.depth" (inClass (top 56) 5),
  Hd.dA (fun K => He.ma K (He.ga K "Turned") "depth") "depth" "Part.depth" (inClass (top 56) 5),
  Hd.dA (fun K => He.ma K (He.ga K "Series") "depth") "depth" "Part.depth" (inClass (top 56) 5),
  Hd.dA (fun K => He.ma K (He.ga K "Branch") "depth") "depth" "Part.depth" (inClass (top 56) 5),
  Hd.dA (fun K => He.ma K (He.ga K "Turned") "bounded") "bounded" "Part.bounded" (inClass (top 56) 8),
  Hd.dA (fun K => He.ma K (He.ga K "Series") "bounded") "bounded" "Part.bounded" (inClass (top 56) 8),
  Hd.dA (fun K => He.ma K (He.ga K "Branch") "bounded") "bounded" "Part.bounded" (inClass (top 56) 8),
  Hd.dA (fun K => He.ma K (He.ga K "Fixed") "holds") "holds" "Fixed.holds" (inClass (top 57) 1),
  Hd.dA (fun K => He.ma K (He.ga K "Contact") "holds") "holds" "Contact.holds" (inClass (top 58) 1),
  Hd.dA (fun K => He.ma K (He.ga K "Turned") "holds") "holds" "Turned.holds" (inClass (top 59) 2),
  Hd.dA (fun K => He.ma K (He.ga K "Series") "holds") "holds" "Series.holds" (inClass (top 61) 0),
  Hd.dA (fun K => He.ma K (He.ga K "Branch") "holds") "holds" "Branch.holds" (inClass (top 62) 0),
  Hd.dA (fun K => He.ga K "need_row") "need_row" "need_row" (top 26),
  Hd.dA (fun K => He.ma K (He.ga K "Works") "act") "act" "Works.act" (inClass (top 27) 2),
  Hd.dA (fun K => He.ma K (He.ga K "Works") "count_on") "count_on" "Works.count_on" (inClass (top 27) 3),
  Hd.dA (fun K => He.ma K (He.ga K "Works") "scan") "scan" "Works.scan" (inClass (top 27) 1),
  Hd.dA (fun K => He.ga K "rows") "rows" "rows" (top 37),
  Hd.dA (fun K => He.ga K "row_of") "row_of" "row_of" (top 38),
  Hd.dA (fun K => He.ga K "row_number") "row_number" "row_number" (top 39),
  Hd.dA (fun K => He.ma K (He.ga K "Works") "image") "image" "Works.image" (inClass (top 27) 7),
  Hd.dA (fun K => He.ma K (He.ga K "Works") "answers") "answers" "Works.answers" (inClass (top 27) 6),
  Hd.dA (fun K => He.ga K "step") "step" "step" (top 40),
  (⟨fun K => He.ga K "reached", "reached", "reached", defArgs (top 42), defBody (top 42), defScope (top 42), [.int 500], []⟩ : He5.DefA),
  Hd.dA (fun K => He.ga K "run_to") "run_to" "run_to" (top 43),
  Hd.dA (fun K => He.ma K (He.ga K "Fixed") "__init__") "__init__" "Fixed.__init__" (inClass (top 57) 0),
  Hd.dA (fun K => He.ma K (He.ga K "Contact") "__init__") "__init__" "Contact.__init__" (inClass (top 58) 0),
  Hd.dA (fun K => He.ma K (He.ga K "Turned") "__init__") "__init__" "Turned.__init__" (inClass (top 59) 0),
  Hd.dA (fun K => He.ma K (He.ga K "Series") "__init__") "__init__" "Group.__init__" (inClass (top 60) 0),
  Hd.dA (fun K => He.ma K (He.ga K "Branch") "__init__") "__init__" "Group.__init__" (inClass (top 60) 0),
  Hd.dA (fun K => He.ga K "single") "single" "single" (top 64),
  Hd.dA (fun K => He.ga K "joined") "joined" "joined" (top 65),
  Hd.dA (fun K => He.ga K "part_of") "part_of" "part_of" (top 66),
  Hd.dA (fun K => He.ga K "_law_end") "_law_end" "_law_end" (top 73),
  Hd.dA (fun K => He.ga K "_law_made") "_law_made" "_law_made" (top 80),
  Hd.dA (fun K => He.ga K "_law_ends") "_law_ends" "_law_ends" (top 75),
  Hd.dA (fun K => He.ga K "_law_holds") "_law_holds" "_law_holds" (top 74),
  Hd.dA (fun K => He.ga K "_law_begun") "_law_begun" "_law_begun" (top 76),
  Hd.dA (fun K => He.ga K "_law_acted") "_law_acted" "_law_acted" (top 77),
  Hd.dA (fun K => He.ga K "_law_scanned") "_law_scanned" "_law_scanned" (top 78),
  Hd.dA (fun K => He.ga K "_law_state") "_law_state" "_law_state" (top 79),
  Hd.dA (fun K => He.ga K "_law_default") "_law_default" "_law_default" (top 81),
  Hd.dA (fun K => He.ga K "_law_long_right") "_law_long_right" "_law_long_right" (top 82),
  Hd.dA (fun K => He.ga K "_law_cell_at") "_law_cell_at" "_law_cell_at" (top 68),
  Hd.dA (fun K => He.ga K "_law_mixed") "_law_mixed" "_law_mixed" (top 69),
  Hd.dA (fun K => He.ga K "_law_tree") "_law_tree" "_law_tree" (top 71),
  Hd.dA (fun K => He.ga K "_law_names") "_law_names" "_law_names" (top 70),
  Hd.dA (fun K => He.ga K "_law_small") "_law_small" "_law_small" (top 72)]
def defs : List He5.DefA := (defs0 ++ defs1)
def names0 : List PySem.Str := ["_wall", "LadderError", "NoName", "NoPart", "NoEnd", "NoLadder", "NoRow", "NoState", "TooMany", "SIGNS", "MOST_SIGNS", "KEPT", "is_word", "is_name", "MOST_COUNT", "End"]
def names1 : List PySem.Str := ["Coil", "Latch", "Unlatch", "Counting", "Timer", "Counter", "need_row", "Works", "COUNT_BITS", "counting_ends", "bits_of", "width", "state_of", "pieces", "works_at", "rows"]
def names2 : List PySem.Str := ["row_of", "row_number", "step", "reached", "run_to", "MOST_NAMES", "MOST_RUNGS", "MOST_WRITTEN", "Rung", "need_between", "need_single", "need_own", "Ladder", "MOST_SIZE", "MOST_DEEP", "Part"]
def names3 : List PySem.Str := ["Fixed", "Contact", "Turned", "Group", "Series", "Branch", "bracketed", "single", "joined", "part_of", "_law_cell_at", "_law_mixed", "_law_names", "_law_tree", "_law_small", "_law_end"]
def names4 : List PySem.Str := ["_law_holds", "_law_ends", "_law_begun", "_law_acted", "_law_scanned", "_law_state", "_law_made", "_law_default", "_law_long_right"]
def names : List PySem.Str := names0 ++ names1 ++ names2 ++ names3 ++ names4
def addrs0 : List Nat := [nat_lit 3, nat_lit 6, nat_lit 4, nat_lit 21, nat_lit 31, nat_lit 44, nat_lit 56, nat_lit 68, nat_lit 80, nat_lit 92, nat_lit 104, nat_lit 116, nat_lit 119, nat_lit 126, nat_lit 133, nat_lit 171, nat_lit 185, nat_lit 204, nat_lit 223, nat_lit 249, nat_lit 268, nat_lit 287, nat_lit 296, nat_lit 374, nat_lit 385, nat_lit 392, nat_lit 397, nat_lit 404, nat_lit 411, nat_lit 418, nat_lit 425, nat_lit 430, nat_lit 437, nat_lit 444, nat_lit 452, nat_lit 459, nat_lit 476, nat_lit 487, nat_lit 494, nat_lit 501]
def addrs1 : List Nat := [nat_lit 523, nat_lit 596, nat_lit 638, nat_lit 685, nat_lit 732, nat_lit 782, nat_lit 806, nat_lit 837, nat_lit 846, nat_lit 853, nat_lit 860, nat_lit 867, nat_lit 874, nat_lit 881, nat_lit 888, nat_lit 895, nat_lit 902, nat_lit 909, nat_lit 914, nat_lit 921, nat_lit 928, nat_lit 935, nat_lit 942, nat_lit 949, nat_lit 954, nat_lit 961, nat_lit 968, nat_lit 973, nat_lit 0, nat_lit 20, nat_lit 30, nat_lit 43, nat_lit 55, nat_lit 67, nat_lit 79, nat_lit 91, nat_lit 103, nat_lit 115, nat_lit 125, nat_lit 132]
def addrs2 : List Nat := [nat_lit 170, nat_lit 184, nat_lit 203, nat_lit 222, nat_lit 248, nat_lit 267, nat_lit 286, nat_lit 295, nat_lit 373, nat_lit 384, nat_lit 391, nat_lit 396, nat_lit 403, nat_lit 410, nat_lit 417, nat_lit 424, nat_lit 429, nat_lit 436, nat_lit 443, nat_lit 451, nat_lit 445, nat_lit 458, nat_lit 475, nat_lit 486, nat_lit 493, nat_lit 500, nat_lit 522, nat_lit 595, nat_lit 637, nat_lit 684, nat_lit 731, nat_lit 781, nat_lit 805, nat_lit 836, nat_lit 845, nat_lit 852, nat_lit 859, nat_lit 866, nat_lit 873, nat_lit 880]
def addrs3 : List Nat := [nat_lit 887, nat_lit 894, nat_lit 901, nat_lit 908, nat_lit 913, nat_lit 920, nat_lit 927, nat_lit 934, nat_lit 941, nat_lit 948, nat_lit 953, nat_lit 960, nat_lit 967, nat_lit 972, nat_lit 15, nat_lit 16, nat_lit 17, nat_lit 18, nat_lit 19, nat_lit 29, nat_lit 32, nat_lit 42, nat_lit 54, nat_lit 66, nat_lit 78, nat_lit 90, nat_lit 102, nat_lit 114, nat_lit 120, nat_lit 121, nat_lit 122, nat_lit 123, nat_lit 124, nat_lit 127, nat_lit 128, nat_lit 129, nat_lit 130, nat_lit 131, nat_lit 147, nat_lit 154]
def addrs4 : List Nat := [nat_lit 161, nat_lit 168, nat_lit 169, nat_lit 172, nat_lit 173, nat_lit 183, nat_lit 201, nat_lit 202, nat_lit 220, nat_lit 221, nat_lit 239, nat_lit 246, nat_lit 247, nat_lit 265, nat_lit 266, nat_lit 284, nat_lit 285, nat_lit 290, nat_lit 291, nat_lit 292, nat_lit 293, nat_lit 294, nat_lit 310, nat_lit 317, nat_lit 324, nat_lit 331, nat_lit 338, nat_lit 345, nat_lit 350, nat_lit 357, nat_lit 364, nat_lit 371, nat_lit 372, nat_lit 375, nat_lit 376, nat_lit 379, nat_lit 380, nat_lit 381, nat_lit 382, nat_lit 383]
def addrs5 : List Nat := [nat_lit 386, nat_lit 387, nat_lit 388, nat_lit 389, nat_lit 390, nat_lit 393, nat_lit 394, nat_lit 395, nat_lit 398, nat_lit 399, nat_lit 400, nat_lit 401, nat_lit 402, nat_lit 405, nat_lit 406, nat_lit 407, nat_lit 408, nat_lit 409, nat_lit 412, nat_lit 413, nat_lit 414, nat_lit 415, nat_lit 416, nat_lit 419, nat_lit 420, nat_lit 421, nat_lit 422, nat_lit 423, nat_lit 426, nat_lit 427, nat_lit 428, nat_lit 431, nat_lit 432, nat_lit 433, nat_lit 434, nat_lit 435, nat_lit 438, nat_lit 439, nat_lit 440, nat_lit 441]
def addrs6 : List Nat := [nat_lit 442, nat_lit 446, nat_lit 447, nat_lit 448, nat_lit 449, nat_lit 450, nat_lit 453, nat_lit 454, nat_lit 455, nat_lit 456, nat_lit 457, nat_lit 473, nat_lit 474, nat_lit 477, nat_lit 478, nat_lit 481, nat_lit 482, nat_lit 483, nat_lit 484, nat_lit 485, nat_lit 488, nat_lit 489, nat_lit 490, nat_lit 491, nat_lit 492, nat_lit 495, nat_lit 496, nat_lit 497, nat_lit 498, nat_lit 499, nat_lit 513, nat_lit 520, nat_lit 521, nat_lit 524, nat_lit 525, nat_lit 541, nat_lit 548, nat_lit 555, nat_lit 562, nat_lit 567]
def addrs7 : List Nat := [nat_lit 572, nat_lit 579, nat_lit 586, nat_lit 593, nat_lit 594, nat_lit 597, nat_lit 598, nat_lit 614, nat_lit 621, nat_lit 628, nat_lit 635, nat_lit 636, nat_lit 654, nat_lit 661, nat_lit 668, nat_lit 675, nat_lit 682, nat_lit 683, nat_lit 701, nat_lit 708, nat_lit 715, nat_lit 722, nat_lit 729, nat_lit 730, nat_lit 748, nat_lit 755, nat_lit 762, nat_lit 769, nat_lit 774, nat_lit 779, nat_lit 780, nat_lit 796, nat_lit 803, nat_lit 804, nat_lit 820, nat_lit 827, nat_lit 834, nat_lit 835, nat_lit 840, nat_lit 841]
def addrs8 : List Nat := [nat_lit 842, nat_lit 843, nat_lit 844, nat_lit 847, nat_lit 848, nat_lit 849, nat_lit 850, nat_lit 851, nat_lit 854, nat_lit 855, nat_lit 856, nat_lit 857, nat_lit 858, nat_lit 861, nat_lit 862, nat_lit 863, nat_lit 864, nat_lit 865, nat_lit 868, nat_lit 869, nat_lit 870, nat_lit 871, nat_lit 872, nat_lit 875, nat_lit 876, nat_lit 877, nat_lit 878, nat_lit 879, nat_lit 882, nat_lit 883, nat_lit 884, nat_lit 885, nat_lit 886, nat_lit 889, nat_lit 890, nat_lit 891, nat_lit 892, nat_lit 893, nat_lit 896, nat_lit 897]
def addrs9 : List Nat := [nat_lit 898, nat_lit 899, nat_lit 900, nat_lit 903, nat_lit 904, nat_lit 905, nat_lit 906, nat_lit 907, nat_lit 910, nat_lit 911, nat_lit 912, nat_lit 915, nat_lit 916, nat_lit 917, nat_lit 918, nat_lit 919, nat_lit 922, nat_lit 923, nat_lit 924, nat_lit 925, nat_lit 926, nat_lit 929, nat_lit 930, nat_lit 931, nat_lit 932, nat_lit 933, nat_lit 936, nat_lit 937, nat_lit 938, nat_lit 939, nat_lit 940, nat_lit 943, nat_lit 944, nat_lit 945, nat_lit 946, nat_lit 947, nat_lit 950, nat_lit 951, nat_lit 952, nat_lit 955]
def addrs10 : List Nat := [nat_lit 956, nat_lit 957, nat_lit 958, nat_lit 959, nat_lit 962, nat_lit 963, nat_lit 964, nat_lit 965, nat_lit 966, nat_lit 969, nat_lit 970, nat_lit 971, nat_lit 146, nat_lit 153, nat_lit 160, nat_lit 167, nat_lit 200, nat_lit 219, nat_lit 238, nat_lit 245, nat_lit 264, nat_lit 283, nat_lit 309, nat_lit 316, nat_lit 323, nat_lit 330, nat_lit 337, nat_lit 344, nat_lit 349, nat_lit 356, nat_lit 363, nat_lit 370, nat_lit 472, nat_lit 512, nat_lit 519, nat_lit 540, nat_lit 547, nat_lit 554, nat_lit 561, nat_lit 566]
def addrs11 : List Nat := [nat_lit 571, nat_lit 578, nat_lit 585, nat_lit 592, nat_lit 613, nat_lit 620, nat_lit 627, nat_lit 634, nat_lit 653, nat_lit 660, nat_lit 667, nat_lit 674, nat_lit 681, nat_lit 700, nat_lit 707, nat_lit 714, nat_lit 721, nat_lit 728, nat_lit 747, nat_lit 754, nat_lit 761, nat_lit 768, nat_lit 773, nat_lit 778, nat_lit 795, nat_lit 802, nat_lit 819, nat_lit 826, nat_lit 833, nat_lit 141, nat_lit 142, nat_lit 143, nat_lit 144, nat_lit 145, nat_lit 148, nat_lit 149, nat_lit 150, nat_lit 151, nat_lit 152, nat_lit 155]
def addrs12 : List Nat := [nat_lit 156, nat_lit 157, nat_lit 158, nat_lit 159, nat_lit 162, nat_lit 163, nat_lit 164, nat_lit 165, nat_lit 166, nat_lit 195, nat_lit 196, nat_lit 197, nat_lit 198, nat_lit 199, nat_lit 214, nat_lit 215, nat_lit 216, nat_lit 217, nat_lit 218, nat_lit 233, nat_lit 234, nat_lit 235, nat_lit 236, nat_lit 237, nat_lit 240, nat_lit 241, nat_lit 242, nat_lit 243, nat_lit 244, nat_lit 259, nat_lit 260, nat_lit 261, nat_lit 262, nat_lit 263, nat_lit 278, nat_lit 279, nat_lit 280, nat_lit 281, nat_lit 282, nat_lit 304]
def addrs13 : List Nat := [nat_lit 305, nat_lit 306, nat_lit 307, nat_lit 308, nat_lit 311, nat_lit 312, nat_lit 313, nat_lit 314, nat_lit 315, nat_lit 318, nat_lit 319, nat_lit 320, nat_lit 321, nat_lit 322, nat_lit 325, nat_lit 326, nat_lit 327, nat_lit 328, nat_lit 329, nat_lit 332, nat_lit 333, nat_lit 334, nat_lit 335, nat_lit 336, nat_lit 339, nat_lit 340, nat_lit 341, nat_lit 342, nat_lit 343, nat_lit 346, nat_lit 347, nat_lit 348, nat_lit 351, nat_lit 352, nat_lit 353, nat_lit 354, nat_lit 355, nat_lit 358, nat_lit 359, nat_lit 360]
def addrs14 : List Nat := [nat_lit 361, nat_lit 362, nat_lit 365, nat_lit 366, nat_lit 367, nat_lit 368, nat_lit 369, nat_lit 467, nat_lit 468, nat_lit 469, nat_lit 470, nat_lit 471, nat_lit 509, nat_lit 510, nat_lit 511, nat_lit 514, nat_lit 515, nat_lit 516, nat_lit 517, nat_lit 518, nat_lit 535, nat_lit 536, nat_lit 537, nat_lit 538, nat_lit 539, nat_lit 542, nat_lit 543, nat_lit 544, nat_lit 545, nat_lit 546, nat_lit 549, nat_lit 550, nat_lit 551, nat_lit 552, nat_lit 553, nat_lit 556, nat_lit 557, nat_lit 558, nat_lit 559, nat_lit 560]
def addrs15 : List Nat := [nat_lit 563, nat_lit 564, nat_lit 565, nat_lit 568, nat_lit 569, nat_lit 570, nat_lit 573, nat_lit 574, nat_lit 575, nat_lit 576, nat_lit 577, nat_lit 580, nat_lit 581, nat_lit 582, nat_lit 583, nat_lit 584, nat_lit 587, nat_lit 588, nat_lit 589, nat_lit 590, nat_lit 591, nat_lit 608, nat_lit 609, nat_lit 610, nat_lit 611, nat_lit 612, nat_lit 615, nat_lit 616, nat_lit 617, nat_lit 618, nat_lit 619, nat_lit 622, nat_lit 623, nat_lit 624, nat_lit 625, nat_lit 626, nat_lit 629, nat_lit 630, nat_lit 631, nat_lit 632]
def addrs16 : List Nat := [nat_lit 633, nat_lit 648, nat_lit 649, nat_lit 650, nat_lit 651, nat_lit 652, nat_lit 655, nat_lit 656, nat_lit 657, nat_lit 658, nat_lit 659, nat_lit 662, nat_lit 663, nat_lit 664, nat_lit 665, nat_lit 666, nat_lit 669, nat_lit 670, nat_lit 671, nat_lit 672, nat_lit 673, nat_lit 676, nat_lit 677, nat_lit 678, nat_lit 679, nat_lit 680, nat_lit 695, nat_lit 696, nat_lit 697, nat_lit 698, nat_lit 699, nat_lit 702, nat_lit 703, nat_lit 704, nat_lit 705, nat_lit 706, nat_lit 709, nat_lit 710, nat_lit 711, nat_lit 712]
def addrs17 : List Nat := [nat_lit 713, nat_lit 716, nat_lit 717, nat_lit 718, nat_lit 719, nat_lit 720, nat_lit 723, nat_lit 724, nat_lit 725, nat_lit 726, nat_lit 727, nat_lit 742, nat_lit 743, nat_lit 744, nat_lit 745, nat_lit 746, nat_lit 749, nat_lit 750, nat_lit 751, nat_lit 752, nat_lit 753, nat_lit 756, nat_lit 757, nat_lit 758, nat_lit 759, nat_lit 760, nat_lit 763, nat_lit 764, nat_lit 765, nat_lit 766, nat_lit 767, nat_lit 770, nat_lit 771, nat_lit 772, nat_lit 775, nat_lit 776, nat_lit 777, nat_lit 792, nat_lit 793, nat_lit 794]
def addrs18 : List Nat := [nat_lit 797, nat_lit 798, nat_lit 799, nat_lit 800, nat_lit 801, nat_lit 816, nat_lit 817, nat_lit 818, nat_lit 821, nat_lit 822, nat_lit 823, nat_lit 824, nat_lit 825, nat_lit 828, nat_lit 829, nat_lit 830, nat_lit 831, nat_lit 832, nat_lit 2]
/-- the objects that the module's names reach -/
def addrs : List Nat := addrs0 ++ addrs1 ++ addrs2 ++ addrs3 ++ addrs4 ++ addrs5 ++ addrs6 ++ addrs7 ++ addrs8 ++ addrs9 ++ addrs10 ++ addrs11 ++ addrs12 ++ addrs13 ++ addrs14 ++ addrs15 ++ addrs16 ++ addrs17 ++ addrs18
abbrev hk : PySem.W.Hook := Hd.hook addrs facts defs
def ob (s : PySem.W.SharedT) : He.AlD := Hd.seenG addrs facts defs (HandSHeadRun.getT s)
theorem ob_eq (s : PySem.W.SharedT) : ob s = hk.obs s.abs := Hd.seenG_eq (HandSHeadRun.getT_eq s)
abbrev row : PySem.W.OpenRow := PySem.W.OpenLaw.row PySem.Challenge.rw_rungworks_k55_whole_states_told
set_option maxHeartbeats 0 in
theorem run_looks (w : World) : HandSHeadRun.RunEq row (PySem.W.view row.prog [83]) PySem.W.Hook.none (fun _ => ()) 20000 names w := by
  intro os
  kernel_rfl
set_option maxHeartbeats 0 in
theorem run_0 (w : World) : Hd.Part row 20000 addrs facts0 defs0 w := by
  intro os
  kernel_rfl
set_option maxHeartbeats 0 in
theorem run_1 (w : World) : Hd.Part row 20000 addrs facts1 defs1 w := by
  intro os
  kernel_rfl
theorem run (w : World) : HandSHeadRun.RunEq row (PySem.W.view row.prog [83]) hk ob 20000 names w :=
  Hd.run_of (run_looks w) (Hd.Part.app (run_0 w) (run_1 w))
end Hh
end

set_option Elab.async false
set_option linter.all false
set_option maxRecDepth 100000
set_option maxHeartbeats 2000000
namespace Ru
open PySem PySem.Spec PyProof.Rows L2

/-! ## a def of the module as a caller sees it -/
/-- the def called x is the module's, with body st -/
structure DefAt (K : PySem.W.Frag) (mg : Str → Option Value) (x : Str) (st : Stmt) (ps : List Str) : Prop where
  ex : ∃ f fd, mg x = some (.ref f) ∧ Fun K x x st f fd ∧ Binds K fd ps []
/-- the def called x keeps the promise sp -/
structure FnAt (P : Program) (w : World) (K : PySem.W.Frag) (mg : Str → Option Value) (base : Heap) (cx : CXT) (x : Str) (k : Nat) (ps : List Str) (sp : Sp) : Prop where
  ex : ∃ f fd, mg x = some (.ref f) ∧ PySem.W.keepIn K (.ref f) = true ∧ Binds K fd ps [] ∧ FnOk P w K mg base cx k f fd ps sp
theorem FnAt.mono {P : Program} {w : World} {K : PySem.W.Frag} {mg : Str → Option Value} {base : Heap} {cx : CXT} {x : Str} {j k : Nat} {ps : List Str} {sp : Sp} (F : FnAt P w K mg base cx x j ps sp) (h : j ≤ k) : FnAt P w K mg base cx x k ps sp := by
  obtain ⟨f, fd, h1, h2, h3, h4⟩ := F.ex
  exact ⟨f, fd, h1, h2, h3, h4.mono h⟩
theorem FnAt.imp {P : Program} {w : World} {K : PySem.W.Frag} {mg : Str → Option Value} {base : Heap} {cx : CXT} {x : Str} {k : Nat} {ps : List Str} {sp sp' : Sp} (F : FnAt P w K mg base cx x k ps sp) (h : ∀ vs H Q E, sp' vs H Q E → sp vs H Q E) : FnAt P w K mg base cx x k ps sp' := by
  obtain ⟨f, fd, h1, h2, h3, h4⟩ := F.ex
  exact ⟨f, fd, h1, h2, h3, h4.imp h⟩
section
variable {P : Program} {w : World} {K : PySem.W.Frag} {mg : Str → Option Value} {base : Heap}
theorem fnAt_ok {x : Str} {st : Stmt} {N ps : List Str} {k : Nat} {sp : Sp} (D : DefAt K mg x st ps) (S : FnScope N ps (defScope st)) (len : ∀ vs H Q E, sp vs H Q E → vs.length = ps.length)
    (hbody : ∀ (f : Addr) (cdv : Value) (A : Around) (outer : List Env) (s : Shared) (H : Hp) (vs : List V) (Q : VK) (E : XK), Room k (A.deeper (envOfC x (defScope st) s.heap.objs.size f cdv)) → sp vs H Q E →
      ∃ t, PSs (cxOf CX0 P w K mg base N x (defScope st) f cdv A outer s H E).nox (defBody st) t ∧ t { nx := fun _ H' => Q .non H', rt := Q } (start N vs) H) : FnAt P w K mg base CX0 x (k + 1) ps sp := by
  obtain ⟨f, fd, h1, h2, h3⟩ := D.ex
  exact ⟨f, fd, h1, h2.kp, h3, h2.ok S len (hbody f)⟩
theorem defAt_mk {h : Heap} {x : Str} {st : Stmt} {ps : List Str} {f : Addr} {oc : Value} {od an : Option Addr} {osl : Array (Option Value)} {kV doc pm cdv ct : Value} (X : K.In h) (G : h.Ns mainGlobals mg)
    (a : PySem.W.nsIn K mainGlobals x = some (some (.ref f))) (l : K.lookup f = some ⟨oc, od, .func (PySem.W.fnOf x x (defArgs st) (defBody st) (defScope st) .none kV doc pm an cdv ct), osl⟩)
    (c : PySem.W.codeIn K cdv x = true) (k : PySem.W.keepIn K (.ref f) = true)
    (b : ∀ us : List Value, us.length = ps.length → bindArgs (PySem.W.fnOf x x (defArgs st) (defBody st) (defScope st) .none kV doc pm an cdv ct) ⟨us, []⟩ = pure (ps.zip us)) : DefAt K mg x st ps :=
  ⟨f, _, PySem.W.mg_of X G a, fun_mk l c k, .all b⟩
end
section
variable {X : Cx} {cx : CXT} {j k : Nat} {ps : List Str} {sp : Sp} {E : XK} {x : Str} {p pos : Pos} {e : Expr} {es : List Expr} {t : TA}
theorem pe_callF (F : FnAt X.prog X.w X.K X.mg X.base cx x k ps sp) (hr : Room j X.A) (hx : Passes cx X E) (ha : PA X (e :: es) t) (hj : k ≤ j := by decide) (hg : Gl X x := by rfl)
    (hdb : (x == ("__debug__" : Str)) = false := by decide) (he : starEach (e :: es) X.env = (false, eval e X.env) :: starEach es X.env := by rfl) (hpl : (backTo pos (starEach es X.env)).any (·.1) = false := by rfl) :
    PE X (.Call (.Name x p) (e :: es) [] pos) (tCall sp [] E t) := by
  obtain ⟨f, fd, h1, h2, h3, h4⟩ := F.ex
  exact pe_call h4 (hr.mono hj) hg h1 h2 h3 .nil hx ha hdb he hpl
theorem pe_callF0 (F : FnAt X.prog X.w X.K X.mg X.base cx x k ps sp) (hr : Room j X.A) (hx : Passes cx X E) (hj : k ≤ j := by decide) (hg : Gl X x := by rfl)
    (hdb : (x == ("__debug__" : Str)) = false := by decide) : PE X (.Call (.Name x p) [] [] pos) (tCall sp [] E tNil) := by
  obtain ⟨f, fd, h1, h2, h3, h4⟩ := F.ex
  exact pe_call0 h4 (hr.mono hj) hg h1 h2 h3 .nil hx hdb
end

/-! ## constants of the module -/
/-- the module's name x holds the value v -/
def GlobC (mg : Str → Option Value) (x : Str) (v : V) : Prop := ∃ u, mg x = some u ∧ RelV v u
theorem pe_gc {X : Cx} {x : Str} {v : V} {pos : Pos} (h : GlobC X.mg x v) (hg : Gl X x := by rfl) (hd : (x == ("__debug__" : Str)) = false := by decide) : PE X (.Name x pos) (tC v) := by
  obtain ⟨u, h1, h2⟩ := h
  exact pe_glob hg h1 h2 hd
/-- a tuple that stands wherever one looks -/
def TupK (K : PySem.W.Frag) (a : Addr) (xs : List V) : Prop := ∀ H, SqT K H a xs
def GlobT (K : PySem.W.Frag) (mg : Str → Option Value) (x : Str) (xs : List V) : Prop := ∃ a, mg x = some (.ref a) ∧ TupK K a xs
def tGT (K : PySem.W.Frag) (xs : List V) : TE := fun _ H Q => ∀ a, TupK K a xs → Q (.ref a) H
theorem pe_gt {X : Cx} {x : Str} {xs : List V} {pos : Pos} (h : GlobT X.K X.mg x xs) (hg : Gl X x := by rfl) (hd : (x == ("__debug__" : Str)) = false := by decide) : PE X (.Name x pos) (tGT X.K xs) := by
  obtain ⟨a, h1, h2⟩ := h
  exact ⟨fun pins s σ H Q I q => (pe_glob (v := .ref a) hg h1 rfl hd).run pins s σ H Q I (q a h2)⟩
/-- what a written tuple's items are -/
def valsB : List V → List Value → Bool
  | [], [] => true
  | x :: xs, u :: us => (absV u == some x) && valsB xs us
  | _, _ => false
theorem relV_of_abs {x : V} {u : Value} (h : absV u = some x) : RelV x u := by
  cases u <;> simp [absV] at h <;> subst h <;> first | rfl | exact ⟨_, rfl⟩
theorem vals_of_B : ∀ {xs : List V} {us : List Value}, valsB xs us = true → Vals xs us
  | [], [], _ => .nil
  | x :: xs, u :: us, h => by
    unfold valsB at h
    rw [Bool.and_eq_true] at h
    exact .cons (relV_of_abs (by simpa using h.1)) (vals_of_B h.2)
  | [], _ :: _, h => by simp [valsB] at h
  | _ :: _, [], h => by simp [valsB] at h
theorem globT_mk {K : PySem.W.Frag} {mg : Str → Option Value} {h : Heap} {x : Str} {a : Addr} {n : Nat} {its : Array Value} {od : Option Addr} {sl : Array (Option Value)} {xs : List V} (X : K.In h) (G : h.Ns mainGlobals mg)
    (ha : PySem.W.nsIn K mainGlobals x = some (some (.ref a))) (l : K.lookup a = some ⟨.type "tuple", od, .seq its n, sl⟩) (hs : its.size ≤ sizeLine) (hv : Vals xs its.toList) : GlobT K mg x xs :=
  ⟨a, PySem.W.mg_of X G ha, fun _ => .inr ⟨_, its, n, l, rfl, rfl, hs, hv⟩⟩
theorem globC_mk {K : PySem.W.Frag} {mg : Str → Option Value} {h : Heap} {x : Str} {u : Value} {v : V} (X : K.In h) (G : h.Ns mainGlobals mg) (ha : PySem.W.nsIn K mainGlobals x = some (some u)) (r : RelV v u) : GlobC mg x v :=
  ⟨u, PySem.W.mg_of X G ha, r⟩

theorem pc_inK {X : Cx} {x : Str} {xs : List V} {a : Expr} {ta : TE} {pos : Pos} (h : GlobT X.K X.mg x xs) (ha : PE X a ta) (hg : Gl X x := by rfl) (hd : (x == ("__debug__" : Str)) = false := by decide) :
    PC X .In a (.Name x pos) (fun σ H Q => ta σ H fun v H1 => flatV v = true ∧ xs.all flatV = true ∧ Q (.bl (inV v xs)) H1) := by
  obtain ⟨b, h1, h2⟩ := h
  refine ⟨fun pins s σ H Q I q => ?_⟩
  refine bin (R := fun v u H2 => u = .ref b ∧ flatV v = true ∧ xs.all flatV = true ∧ Q (.bl (inV v xs)) H2) ha (pe_glob (v := .ref b) hg h1 rfl hd) I ?_ fun v u s2 x y H2 I2 rx ry q => ?_
  · refine (show ta σ H fun v H1 => (V.ref b = .ref b ∧ flatV v = true ∧ xs.all flatV = true ∧ Q (.bl (inV v xs)) H1) from ?_)
    have : (fun v H1 => flatV v = true ∧ xs.all flatV = true ∧ Q (.bl (inV v xs)) H1) = (fun (v : V) (H1 : Hp) => (V.ref b = .ref b ∧ flatV v = true ∧ xs.all flatV = true ∧ Q (.bl (inV v xs)) H1)) := by
      funext v H1
      simp
    rw [← this]
    exact q
  · obtain ⟨rfl, q1, q2, q3⟩ := q
    exact op_in_seq pins s2 σ H2 _ _ _ _ Q I2 rx ry ⟨b, xs, rfl, .inr (h2 H2), q1, q2, q3⟩
theorem pc_notInK {X : Cx} {x : Str} {xs : List V} {a : Expr} {ta : TE} {pos : Pos} (h : GlobT X.K X.mg x xs) (ha : PE X a ta) (hg : Gl X x := by rfl) (hd : (x == ("__debug__" : Str)) = false := by decide) :
    PC X .NotIn a (.Name x pos) (fun σ H Q => ta σ H fun v H1 => flatV v = true ∧ xs.all flatV = true ∧ Q (.bl (!inV v xs)) H1) := by
  obtain ⟨b, h1, h2⟩ := h
  refine ⟨fun pins s σ H Q I q => ?_⟩
  refine bin (R := fun v u H2 => u = .ref b ∧ flatV v = true ∧ xs.all flatV = true ∧ Q (.bl (!inV v xs)) H2) ha (pe_glob (v := .ref b) hg h1 rfl hd) I ?_ fun v u s2 x y H2 I2 rx ry q => ?_
  · refine (show ta σ H fun v H1 => (V.ref b = .ref b ∧ flatV v = true ∧ xs.all flatV = true ∧ Q (.bl (!inV v xs)) H1) from ?_)
    have : (fun v H1 => flatV v = true ∧ xs.all flatV = true ∧ Q (.bl (!inV v xs)) H1) = (fun (v : V) (H1 : Hp) => (V.ref b = .ref b ∧ flatV v = true ∧ xs.all flatV = true ∧ Q (.bl (!inV v xs)) H1)) := by
      funext v H1
      simp
    rw [← this]
    exact q
  · obtain ⟨rfl, q1, q2, q3⟩ := q
    exact op_notIn_seq pins s2 σ H2 _ _ _ _ Q I2 rx ry ⟨b, xs, rfl, .inr (h2 H2), q1, q2, q3⟩

/-! ## texts as lists of code points -/
def mkS (l : List Nat) : Str := ⟨l.toArray⟩
theorem mkS_len (l : List Nat) : (mkS l).length = l.length := by simp [mkS, Str.length]
theorem mkS_tl (z : Str) : mkS z.cps.toList = z := by simp [mkS]
theorem tl_mkS (l : List Nat) : (mkS l).cps.toList = l := by simp [mkS]
theorem mkS_inj {a b : List Nat} (h : mkS a = mkS b) : a = b := by rw [← tl_mkS a, ← tl_mkS b, h]
theorem mkS_app (a b : List Nat) : mkS a ++ mkS b = mkS (a ++ b) := by
  show Str.append _ _ = _
  simp [Str.append, mkS]
theorem empty_mk : ("" : Str) = mkS [] := by decide +kernel
theorem mkS_one (c : Nat) : (⟨#[c]⟩ : Str) = mkS [c] := rfl
theorem cutS_to (l : List Nat) (n : Nat) : cutS (mkS l) none (some (n : Int)) = mkS (l.take n) := by
  unfold cutS
  rw [HT.sIx_none, HT.sIx_nat, mkS_len, tl_mkS]
  show mkS _ = _
  congr 1
  rw [List.drop_zero, Nat.sub_zero]
  by_cases h : n ≤ l.length
  · rw [Nat.min_eq_left h]
  · rw [Nat.min_eq_right (by omega), List.take_of_length_le (Nat.le_refl _), List.take_of_length_le (by omega)]
theorem cutS_from (l : List Nat) (n : Nat) : cutS (mkS l) (some (n : Int)) none = mkS (l.drop n) := by
  unfold cutS
  rw [HT.sIx_none, HT.sIx_nat, mkS_len, tl_mkS]
  show mkS _ = _
  congr 1
  by_cases h : n ≤ l.length
  · rw [Nat.min_eq_left h, List.take_of_length_le (by rw [List.length_drop]; omega)]
  · rw [Nat.min_eq_right (by omega), List.drop_of_length_le (Nat.le_refl _), List.drop_of_length_le (by omega)]
    simp
theorem cutS_le (z : Str) (lo hi : Option Int) : (cutS z lo hi).length ≤ z.length := by
  unfold cutS Str.length
  simp only [List.size_toArray, List.length_take, List.length_drop, Array.length_toList]
  omega
theorem len_app (x y : Str) : (x ++ y).length = x.length + y.length := strLen_append x y
/-- the item at an int's place -/
theorem atI_int {α : Type} {xs : List α} {i : Int} {v : α} (h0 : 0 ≤ i) (h : xs[i.toNat]? = some v) : atI xs i = some v := by
  obtain ⟨n, rfl⟩ := Int.eq_ofNat_of_zero_le h0
  exact atI_nat h

theorem atI_ex {α : Type} {xs : List α} {i : Int} (h0 : 0 ≤ i) (h : i < xs.length) : ∃ v, v ∈ xs ∧ atI xs i = some v := by
  have hn : i.toNat < xs.length := by omega
  exact ⟨xs[i.toNat], List.getElem_mem hn, atI_int h0 (List.getElem?_eq_getElem hn)⟩
theorem line_ge {n : Nat} (h : n ≤ 1000000) : n ≤ sizeLine := by rw [sizeLine_eq]; omega
/-- the law's def, and how its one argument binds -/
structure LawAt (K : PySem.W.Frag) (mg : Str → Option Value) (st : Stmt) (p : Str) : Prop where
  ex : ∃ f fd, mg "law" = some (.ref f) ∧ Fun K "law" "law" st f fd ∧ ∀ u : Value, bindArgs fd ⟨[u], []⟩ = pure [(p, u)]
theorem lawAt_mk {K : PySem.W.Frag} {mg : Str → Option Value} {h : Heap} {st : Stmt} {p : Str} {f : Addr} {oc : Value} {od an : Option Addr} {osl : Array (Option Value)} {kV doc pm cdv ct : Value} (X : K.In h) (G : h.Ns mainGlobals mg)
    (a : PySem.W.nsIn K mainGlobals "law" = some (some (.ref f))) (l : K.lookup f = some ⟨oc, od, .func (PySem.W.fnOf "law" "law" (defArgs st) (defBody st) (defScope st) .none kV doc pm an cdv ct), osl⟩)
    (c : PySem.W.codeIn K cdv "law" = true) (k : PySem.W.keepIn K (.ref f) = true)
    (b : ∀ u : Value, bindArgs (PySem.W.fnOf "law" "law" (defArgs st) (defBody st) (defScope st) .none kV doc pm an cdv ct) ⟨[u], []⟩ = pure [(p, u)]) : LawAt K mg st p :=
  ⟨f, _, PySem.W.mg_of X G a, fun_mk l c k, b⟩
theorem law_end {prog : Program} {w : World} {K : PySem.W.Frag} {mg : Str → Option Value} {st : Stmt} {p : Str} {fa : Addr} {cx : CXT} {k : Nat} {sp : Sp} (L : LawAt K mg st p) (hfa : mg "law" = some (.ref fa))
    (ok : ∀ (base : Heap) (f : Addr) (fd : FuncData), Fun K "law" "law" st f fd → FnOk prog w K mg base cx k f fd [p] sp) :
    ∃ fd : FuncData, (∀ (s : Shared) (u : Value), BindsTo s fd ⟨[u], []⟩ [(p, u)]) ∧ ∀ base : Heap, K.In base → base.Ns mainGlobals mg → FnOk prog w K mg base cx k fa fd [p] sp := by
  obtain ⟨f, fd, h1, h2, h3⟩ := L.ex
  have e : f = fa := by
    have := h1.symm.trans hfa
    injection this with e
    injection e
  subst e
  exact ⟨fd, fun s u => .of_eq (h3 u), fun base _ _ => ok base f fd h2⟩
/-- what is promised of a law: True, whatever stands -/
def spLaw (K : PySem.W.Frag) : Sp := fun vs H Q _ => ∃ (a : Addr) (ns : List Int), vs = [.ref a] ∧ SqL K H a (ns.map V.int) ∧ ns.length ≤ 63 ∧ ∀ H', Q (.bl true) H'
theorem law_walk {l : PySem.W.OpenLaw} {q : Program} {loose : List Str} {XP : (Str → Option Value) → Heap → Prop} {YP : World → Heap → Prop} {d : DefRec} {K : Params → PySem.W.Frag} {cx : CXT} {k : Nat} {p : Str} (hr : Room k callerA) (hn : l.most = some 63) (hdf : d.params.defaults = [])
    (hY : ∀ (w : World) (h : Heap), YP w h → (K w.params).In h) (hcx : ∀ (H : Hp) (s : Shared) (e : Value) (s' : Shared), cx [] H s (fun _ _ _ => False) e s' → False)
    (F : ∀ (w : World) (mg : Str → Option Value) (fa : Addr) (h : Heap), (K w.params).In h → h.Ns mainGlobals mg → mg d.name = some (.ref fa) →
      ∃ fd : FuncData, (∀ (s : Shared) (u : Value), BindsTo s fd ⟨[u], []⟩ [(p, u)]) ∧ ∀ base : Heap, (K w.params).In base → base.Ns mainGlobals mg → FnOk l.prog w (K w.params) mg base cx k fa fd [p] (spLaw (K w.params))) :
    PySem.W.WalkO q loose XP YP l.row.toRowW d [] (fun f vs => PySem.call f vs) :=
  L2.walk_of (n := 63) (k := k) (x := p) (CX := fun _ => cx) (sp := fun w => spLaw (K w.params)) hn (by decide) hdf hr hY F (fun _ _ a ns hl _ hS => ⟨a, ns, rfl, hS, hl, fun _ => rfl⟩) fun _ H s e s' z => hcx H s e s' z

/-! ## isinstance of flat values and bool, int, str -/
def isBlV : V → Bool
  | .bl _ => true
  | _ => false
def isIntV : V → Bool
  | .bl _ => true
  | .int _ => true
  | _ => false
def isStrV : V → Bool
  | .str _ => true
  | _ => false
theorem scal_ii {a b : Int} : scal (.int a) (.int b) = true := rfl
theorem scal_bb {a b : Bool} : scal (.bl a) (.bl b) = true := rfl
theorem scal_ss {a b : Str} : scal (.str a) (.str b) = true := rfl
theorem scal_sb {a : Str} {b : Bool} : scal (.str a) (.bl b) = true := rfl
theorem scal_bs {a : Str} {b : Bool} : scal (.bl b) (.str a) = true := rfl
theorem flat_s {z : Str} : flatV (.str z) = true := rfl
theorem flat_i {z : Int} : flatV (.int z) = true := rfl
theorem flat_b {z : Bool} : flatV (.bl z) = true := rfl
theorem flat_n : flatV .non = true := rfl
def rIsF (n : String) (f : V → Bool) : List V → Hp → VK → Prop := fun xs H Q => ∃ x, xs = [x, .ty n] ∧ flatV x = true ∧ Q (.bl (f x)) H
theorem call_isF {X : Cx} {n : String} {f : V → Bool} (hn : kitB "NoneType" n = some (f .non)) (hb : ∀ b, kitB "bool" n = some (f (.bl b))) (hi : ∀ i, kitB "int" n = some (f (.int i))) (hs : ∀ z, kitB "str" n = some (f (.str z))) :
    CallR X (.builtin "isinstance") (rIsF n f) := by
  intro pins s σ H xs us Q I r h
  obtain ⟨x, rfl, fx, q⟩ := h
  refine call_isi pins s σ H _ us Q I r ?_
  cases x with
  | non => exact ⟨_, _, _, _, _, rfl, .ty n, .base (.non), kit_ty hn, q⟩
  | bl b => exact ⟨_, _, _, _, _, rfl, .ty n, .base (.bl b), kit_ty (hb b), q⟩
  | int i => exact ⟨_, _, _, _, _, rfl, .ty n, .base (.int i), kit_ty (hi i), q⟩
  | str z => exact ⟨_, _, _, _, _, rfl, .ty n, .base (.str z), kit_ty (hs z), q⟩
  | byt b => cases fx
  | flt b => cases fx
  | ref a => cases fx
  | ty a => cases fx
theorem call_isBool {X : Cx} : CallR X (.builtin "isinstance") (rIsF "bool" isBlV) :=
  call_isF (by decide +kernel) (fun _ => (by decide +kernel : kitB "bool" "bool" = some true)) (fun _ => (by decide +kernel : kitB "int" "bool" = some false)) fun _ => (by decide +kernel : kitB "str" "bool" = some false)
theorem call_isInt {X : Cx} : CallR X (.builtin "isinstance") (rIsF "int" isIntV) :=
  call_isF (by decide +kernel) (fun _ => (by decide +kernel : kitB "bool" "int" = some true)) (fun _ => (by decide +kernel : kitB "int" "int" = some true)) fun _ => (by decide +kernel : kitB "str" "int" = some false)

theorem Same.new {H : Hp} {p : Addr} {o : HO} (h : H p = none) : Same H (upd H p o) := fun b u e => by
  rw [upd_ne (ne_of_none e h)]
  exact e
/-- a store to what H does not know -/
theorem Same.mut {H H' : Hp} {p : Addr} {o : HO} (s : Same H H') (h : H p = none) : Same H (upd H' p o) := fun b u e => by
  rw [upd_ne (ne_of_none e h)]
  exact s b u e
theorem Same.seqT {K : PySem.W.Frag} {H H' : Hp} {a : Addr} {xs : List V} (e : Same H H') (h : SqT K H a xs) : SqT K H' a xs := by
  rcases h with (h | ⟨o, h⟩) | h
  · exact .inl (.inl (e _ _ h))
  · exact .inl (.inr ⟨o, e _ _ h⟩)
  · exact .inr h
/-- [..] == [] of an empty list -/
theorem ne_empty {K : PySem.W.Frag} {H : Hp} {a b : Addr} {Q : VK} (ha : SqL K H a []) (hb : SqL K H b []) (q : Q (.bl false) H) : rNeD K (.ref a) (.ref b) H Q :=
  ⟨.list [], .list [], .lst ha .nil, .lst hb .nil, by decide +kernel, by decide +kernel, q⟩

/-! ## one's own short ways -/
abbrev St : Type := L2.St
theorem exw {α : Type} {P : α → Prop} {a : α} (h : P a) : ∃ x, P x := ⟨a, h⟩
/-- for over a text that the body leaves as it is -/
theorem for_str {x : Str} {g : TG} {tb : TS} {D : Ends} {σ : St} {H : Hp} (Pv : Nat → St → Hp → Prop) (h0 : Pv 0 σ H)
    (hs : ∀ i c σ H, x.cps[i]? = some c → Pv i σ H → g (.str ⟨#[c]⟩) σ H fun σ2 H2 => tb { D with nx := Pv (i + 1), ct := Pv (i + 1), bk := D.nx } σ2 H2) (hd : ∀ σ H, Pv x.cps.size σ H → D.nx σ H) :
    ∃ W : Nat → Nat → St → Hp → Prop, (∃ m, W 0 m σ H) ∧ ∀ i m σ H, W i m σ H →
      ((Its x).stop i H ∧ D.nx σ H) ∨ ((Its x).go i H ∧ ∃ N : St → Hp → Prop, (∀ σ' H', N σ' H' → ∃ m', m' < m ∧ W (i + 1) m' σ' H') ∧ ∀ v H', (Its x).yld i H v H' → g v σ H' fun σ2 H2 => tb { D with nx := N, ct := N, bk := D.nx } σ2 H2) := by
  refine ⟨fun i m σ H => m = x.cps.size - i ∧ i ≤ x.cps.size ∧ Pv i σ H, ⟨x.cps.size, by simp, Nat.zero_le _, h0⟩, ?_⟩
  rintro i m σ H ⟨rfl, hi, p⟩
  by_cases hlt : i < x.cps.size
  · refine .inr ⟨hlt, Pv (i + 1), fun σ' H' p' => ⟨x.cps.size - (i + 1), by omega, rfl, hlt, p'⟩, fun v H' y => ?_⟩
    obtain ⟨e, c, hc, y⟩ := y
    subst e y
    exact hs i c σ _ hc p
  · have e : i = x.cps.size := by omega
    subst e
    exact .inl ⟨Nat.le_refl _, hd σ H p⟩
theorem gcons_eq {t : TG} {u : TGs} {v : V} {r : List V} {σ : L2.St} {H : Hp} {Q : L2.St → Hp → Prop} : gCons t u (v :: r) σ H Q ↔ t v σ H fun σ' H' => u r σ' H' Q :=
  ⟨fun ⟨_, _, e, q⟩ => by cases e; exact q, fun q => ⟨v, r, rfl, q⟩⟩
theorem gnil_eq {σ : L2.St} {H : Hp} {Q : L2.St → Hp → Prop} : gNil [] σ H Q ↔ Q σ H := ⟨fun ⟨_, q⟩ => q, fun q => ⟨rfl, q⟩⟩
theorem cxOf_K {CX : CXT} {P : Program} {w : World} {K : PySem.W.Frag} {mg : Str → Option Value} {base : Heap} {N : List Str} {q : Str} {sc : Scope} {f : Addr} {cd : Value} {A : Around} {outer : List Env} {s : Shared} {H : Hp} {E : XK} :
    (cxOf CX P w K mg base N q sc f cd A outer s H E).K = K := rfl
end Ru

set_option Elab.async false
set_option linter.all false
set_option maxRecDepth 100000
set_option maxHeartbeats 2000000
/-! objects: methods by the receiver's class, tuple(d.keys()), xs != [] of any list -/
namespace Ru
open PySem PySem.Spec PyProof.Rows L2
abbrev St' : Type := L2.St

/-! ## methods by class -/
structure DispAt (P : Program) (w : World) (K : PySem.W.Frag) (mg : Str → Option Value) (base : Heap) (cx : CXT) (T : Addr → Prop) (m : Str) (k : Nat) (ps : List Str) (sp : Addr → Sp) : Prop where
  ex : ∀ C, T C → ∃ f fd, Cls K C ∧ Meth K C m f ∧ Binds K fd ps [] ∧ FnOk P w K mg base cx k f fd ps (sp C)
theorem DispAt.mono {P : Program} {w : World} {K : PySem.W.Frag} {mg : Str → Option Value} {base : Heap} {cx : CXT} {T : Addr → Prop} {m : Str} {j k : Nat} {ps : List Str} {sp : Addr → Sp} (D : DispAt P w K mg base cx T m j ps sp) (h : j ≤ k) : DispAt P w K mg base cx T m k ps sp :=
  ⟨fun C t => let ⟨f, fd, h1, h2, h3, h4⟩ := D.ex C t; ⟨f, fd, h1, h2, h3, h4.mono h⟩⟩
theorem DispAt.imp {P : Program} {w : World} {K : PySem.W.Frag} {mg : Str → Option Value} {base : Heap} {cx : CXT} {T : Addr → Prop} {m : Str} {k : Nat} {ps : List Str} {sp sp' : Addr → Sp} (D : DispAt P w K mg base cx T m k ps sp) (h : ∀ C vs H Q E, T C → sp' C vs H Q E → sp C vs H Q E) : DispAt P w K mg base cx T m k ps sp' :=
  ⟨fun C t => let ⟨f, fd, h1, h2, h3, h4⟩ := D.ex C t; ⟨f, fd, h1, h2, h3, h4.imp fun vs H Q E => h C vs H Q E t⟩⟩
/-- o.m(..), o an instance of one of the classes T -/
def tMethD (T : Addr → Prop) (m : Str) (sp : Addr → Sp) (E : XK) (ta : TE) (t : TA) : TE := fun σ H Q => ta σ H fun x H1 => ∃ a C dx fs, x = .ref a ∧ H1 a = some (.ins C dx fs) ∧ T C ∧ fs.lookup m = none ∧
  t σ H1 fun vs H2 => sp C (x :: vs) H2 Q E
section
variable {X : Cx} {cx : CXT} {j k : Nat} {ps : List Str} {sp : Addr → Sp} {E : XK} {T : Addr → Prop} {m : Str} {p pos apos : Pos} {e o : Expr} {es : List Expr} {ta : TE} {t : TA}
theorem pe_methD {pl : Sem Bool} (D : DispAt X.prog X.w X.K X.mg X.base cx T m k ps sp) (hr : Room j X.A) (hx : Passes cx X E) (he : PE X o ta) (ha : PA X (e :: es) t) (hj : k ≤ j := by decide)
    (hst : starEach (e :: es) X.env = (false, eval e X.env) :: starEach es X.env := by rfl) (hpl : (backTo pos (starEach es X.env)).any (·.1) = false := by rfl)
    (ht : eval (.Call (.Attribute o m apos) (e :: es) [] pos) X.env = (do
      let ov ← eval o X.env
      standAt apos.atName
      let (f, first) ← holding [ov] (getMethod ov m pl)
      callWith pos f first (backTo pos (starEach (e :: es) X.env)) (backToKw pos (keywordEach [] X.env))) := by rfl) :
    PE X (.Call (.Attribute o m apos) (e :: es) [] pos) (tMethD T m sp E ta t) := by
  refine ⟨fun pins s σ H Q I h => ?_⟩
  refine PySem.W.methodCall_KW (pl := pl) (thn (he.run pins s σ H _ I h) fun u s1 ⟨x, H1, I1, rx, a, C, dx, fs, ex, ea, tc, l, q⟩ => ?_) ht
  subst ex
  obtain rfl : u = Value.ref a := rx
  obtain ⟨f, fd, c, hm, hb, F⟩ := D.ex C tc
  refine getmeth_ok I1 ea c hm l ?_
  refine PySem.W.callWith_K (first := [.ref a]) (h₀ := X.base) I.ok.mod.kin hm.kp (thn (ha.run pos pins s1 σ H1 _ I1 q) fun us s2 ⟨vs, H2, I2, r, q2⟩ => ⟨I2.kIn, ?_⟩) hst hpl
  exact run_fn (us := .ref a :: us) (vs := .ref a :: vs) (dvs := []) (ds := []) F (hr.mono hj) hb .nil hx I2 (.cons rfl r) (by rw [List.append_nil]; exact q2)
theorem pe_methD0 {pl : Sem Bool} (D : DispAt X.prog X.w X.K X.mg X.base cx T m k ps sp) (hr : Room j X.A) (hx : Passes cx X E) (he : PE X o ta) (hj : k ≤ j := by decide)
    (ht : eval (.Call (.Attribute o m apos) [] [] pos) X.env = (do
      let ov ← eval o X.env
      standAt apos.atName
      let (f, first) ← holding [ov] (getMethod ov m pl)
      callWith pos f first (backTo pos (starEach [] X.env)) (backToKw pos (keywordEach [] X.env))) := by rfl) :
    PE X (.Call (.Attribute o m apos) [] [] pos) (tMethD T m sp E ta tNil) := by
  refine ⟨fun pins s σ H Q I h => ?_⟩
  refine PySem.W.methodCall_KW (pl := pl) (thn (he.run pins s σ H _ I h) fun u s1 ⟨x, H1, I1, rx, a, C, dx, fs, ex, ea, tc, l, q⟩ => ?_) ht
  subst ex
  obtain rfl : u = Value.ref a := rx
  obtain ⟨f, fd, c, hm, hb, F⟩ := D.ex C tc
  refine getmeth_ok I1 ea c hm l ?_
  refine PySem.W.callWith_K0 (first := [.ref a]) I1.kIn hm.kp ?_
  exact run_fn (us := [.ref a]) (vs := [.ref a]) (dvs := []) (ds := []) F (hr.mono hj) hb .nil hx I1 (.cons rfl .nil) q
end
/-- a method of the class at C, as the text has it -/
structure MethAt (K : PySem.W.Frag) (C : Addr) (m qual : Str) (st : Stmt) (ps : List Str) : Prop where
  ex : ∃ f fd, Meth K C m f ∧ Fun K m qual st f fd ∧ Binds K fd ps []
theorem methAt_mk {K : PySem.W.Frag} {C : Addr} {m qual : Str} {st : Stmt} {ps : List Str} {f : Addr} {oc : Value} {od an : Option Addr} {osl : Array (Option Value)} {kV doc pm cdv ct : Value}
    (a : PySem.W.findIn K (.ref C) m = some (some (.ref f))) (i : PySem.W.isFn K (.ref f) = true) (l : K.lookup f = some ⟨oc, od, .func (PySem.W.fnOf m qual (defArgs st) (defBody st) (defScope st) .none kV doc pm an cdv ct), osl⟩)
    (c : PySem.W.codeIn K cdv qual = true) (k : PySem.W.keepIn K (.ref f) = true)
    (b : ∀ us : List Value, us.length = ps.length → bindArgs (PySem.W.fnOf m qual (defArgs st) (defBody st) (defScope st) .none kV doc pm an cdv ct) ⟨us, []⟩ = pure (ps.zip us)) : MethAt K C m qual st ps :=
  ⟨f, _, ⟨a, i, k⟩, fun_mk l c k, .all b⟩
theorem methAt_ok {P : Program} {w : World} {K : PySem.W.Frag} {mg : Str → Option Value} {base : Heap} {C : Addr} {m qual : Str} {st : Stmt} {N ps : List Str} {k : Nat} {sp : Sp} (c : Cls K C) (D : MethAt K C m qual st ps) (S : FnScope N ps (defScope st)) (len : ∀ vs H Q E, sp vs H Q E → vs.length = ps.length)
    (hbody : ∀ (f : Addr) (cdv : Value) (A : Around) (outer : List Env) (s : Shared) (H : Hp) (vs : List V) (Q : VK) (E : XK), Room k (A.deeper (envOfC qual (defScope st) s.heap.objs.size f cdv)) → sp vs H Q E →
      ∃ t, PSs (cxOf CX0 P w K mg base N qual (defScope st) f cdv A outer s H E).nox (defBody st) t ∧ t { nx := fun _ H' => Q .non H', rt := Q } (start N vs) H) :
    ∃ f fd, Cls K C ∧ Meth K C m f ∧ Binds K fd ps [] ∧ FnOk P w K mg base CX0 (k + 1) f fd ps sp := by
  obtain ⟨f, fd, h1, h2, h3⟩ := D.ex
  exact ⟨f, fd, c, h1, h3, h2.ok S len (hbody f)⟩
/-- what is asked of an own class -/
structure ClsAt (K : PySem.W.Frag) (mg : Str → Option Value) (x : Str) (C : Addr) : Prop where
  mg_ : mg x = some (.ref C)
  cl : Cls K C
  ha : PySem.W.findIn K (.ref C) "__class__" = some (some (.builtin "object.__class__"))
  hn : PySem.W.specialIn K (.builtin "object.__class__") "__get__" = some (some (.builtin "getset_descriptor.__get__"))
  htk : PySem.W.takesIn K (.builtin "object.__class__") = some true
  hm : PySem.W.mroIn K C (.type "object") = some true
  mkg : PySem.W.makesIn K C = true
  kp : PySem.W.keepIn K (.ref C) = true
theorem clsAt_mk {K : PySem.W.Frag} {mg : Str → Option Value} {h : Heap} {x : Str} {C : Addr} (X : K.In h) (G : h.Ns mainGlobals mg) (a : PySem.W.nsIn K mainGlobals x = some (some (.ref C)))
    (pg : PySem.W.plainGet K C Str.empty = true) (hd : PySem.W.hasDictIn K C = true) (po : PySem.W.plainOver K C = true) (sa : PySem.W.findIn K (.ref C) "__setattr__" = some (some (.builtin "object.__setattr__")))
    (ha : PySem.W.findIn K (.ref C) "__class__" = some (some (.builtin "object.__class__"))) (hn : PySem.W.specialIn K (.builtin "object.__class__") "__get__" = some (some (.builtin "getset_descriptor.__get__")))
    (htk : PySem.W.takesIn K (.builtin "object.__class__") = some true) (hm : PySem.W.mroIn K C (.type "object") = some true) (mk : PySem.W.makesIn K C = true) (kp : PySem.W.keepIn K (.ref C) = true) : ClsAt K mg x C :=
  ⟨PySem.W.mg_of X G a, ⟨pg, hd, po, sa⟩, ha, hn, htk, hm, mk, kp⟩
/-- a new instance of the class called x -/
structure MakAt (P : Program) (w : World) (K : PySem.W.Frag) (mg : Str → Option Value) (base : Heap) (cx : CXT) (x : Str) (C : Addr) (k : Nat) (ps : List Str) (sp : Sp) : Prop where
  ex : ∃ f fd, mg x = some (.ref C) ∧ Mk K C f ∧ Binds K fd ps [] ∧ FnOk P w K mg base cx k f fd ps sp
theorem makAt_of {P : Program} {w : World} {K : PySem.W.Frag} {mg : Str → Option Value} {base : Heap} {cx : CXT} {x : Str} {C : Addr} {k : Nat} {ps : List Str} {sp : Sp} (c : ClsAt K mg x C)
    (h : ∃ f fd, Cls K C ∧ Meth K C "__init__" f ∧ Binds K fd ps [] ∧ FnOk P w K mg base cx k f fd ps sp) : MakAt P w K mg base cx x C k ps sp := by
  obtain ⟨f, fd, _, h1, h2, h3⟩ := h
  exact ⟨f, fd, c.mg_, ⟨c.mkg, h1.at_, h1.fn, c.kp⟩, h2, h3⟩
section
variable {X : Cx} {cx : CXT} {j k : Nat} {ps : List Str} {sp : Sp} {E : XK} {x : Str} {C : Addr} {p pos : Pos} {e : Expr} {es : List Expr} {t : TA}
theorem pe_makeF (M : MakAt X.prog X.w X.K X.mg X.base cx x C k ps sp) (hr : Room j X.A) (hx : Passes cx X E) (ha : PA X (e :: es) t) (hj : k + 1 ≤ j := by decide) (hg : Gl X x := by rfl)
    (hdb : (x == ("__debug__" : Str)) = false := by decide) (he : starEach (e :: es) X.env = (false, eval e X.env) :: starEach es X.env := by rfl) (hpl : (backTo pos (starEach es X.env)).any (·.1) = false := by rfl) :
    PE X (.Call (.Name x p) (e :: es) [] pos) (tMake C sp [] E t) := by
  obtain ⟨f, fd, h1, h2, h3, h4⟩ := M.ex
  exact pe_make h2 h4 (hr.mono hj) hg h1 h3 .nil hx ha hdb he hpl
end

/-! ## isinstance(x, C), C one of one's own classes -/
theorem pe_cls {X : Cx} {x : Str} {C : Addr} {pos : Pos} (h : ClsAt X.K X.mg x C) (hg : Gl X x := by rfl) (hd : (x == ("__debug__" : Str)) = false := by decide) : PE X (.Name x pos) (tC (.ref C)) := pe_glob hg h.mg_ rfl hd
/-- the answer, by the receiver's class -/
def rIsO (K : PySem.W.Frag) (D : Addr) (T : Addr → Bool → Prop) : List V → Hp → VK → Prop := fun xs H Q => ∃ a C dx fs b, xs = [.ref a, .ref D] ∧ H a = some (.ins C dx fs) ∧ T C b ∧ Q (.bl b) H
/-- for each class C that may come: what it says, and isinstance's answer -/
def IsT (K : PySem.W.Frag) (D : Addr) (T : Addr → Bool → Prop) : Prop := ∀ C b, T C b → (∃ mg x, ClsAt K mg x C) ∧ PySem.W.kitOne K (.ref C) (.ref D) = some b
theorem call_isO {X : Cx} {D : Addr} {T : Addr → Bool → Prop} (h : IsT X.K D T) : CallR X (.builtin "isinstance") (rIsO X.K D T) := by
  intro pins s σ H xs us Q I r hq
  obtain ⟨a, C, dx, fs, b, rfl, ha, t, q⟩ := hq
  obtain ⟨⟨mg, x, c⟩, e⟩ := h C b t
  obtain ⟨u, w', rfl, ru, rw'⟩ := vals2 r
  cases rw'
  exact isinst_ok I ru (TyOf.ins ha c.cl c.ha c.hn c.htk c.hm) e fun tk => ⟨.bl b, H, I.tok _, rfl, q⟩

/-! ## tuple(d.keys()) -/
section
open PySem.W (KdlSrc kdu_collect KdlKeysView)
variable {prog : Program} {w : World} {A : Around} {E : Value → Shared → Prop} {s : Shared} {T : String} {r d : Addr} {n : Nat} {P : Nat → Value → Prop} {OK : Heap → Prop}
theorem code_tuple_new_kdl {Q₁ : Value → Shared → Prop} (K : KdlSrc prog w T r d n P OK) (hh : A.handled = none) (hok : OK s.heap) (hn : n ≤ sizeLine)
    (h : ∀ (h' : Heap) (tk : Nat) (acc : Array Value), (∀ b o, s.heap.get? b = some o → h'.get? b = some o) → ItemsOf P acc n →
      Q₁ (.ref h'.objs.size) { s with heap := h'.push { cls := .type "tuple", data := .seq acc }, toks := tk }) :
    codeAny (model prog w) A (.call (.builtin "tuple.__new__") ⟨[.type "tuple", .ref r], []⟩) (wants Q₁ E) s := by
  refine codeAny_of_tree ?_
  show wpAny _ A.in1 (do checkBuiltinCall "tuple.__new__" ⟨[.type "tuple", .ref r], []⟩; again (.builtin "tuple.__new__" ⟨[.type "tuple", .ref r], []⟩)) _ _ s
  refine wpAny_bind (wpAny_of_eq (F.newCall_tuple_1 _) (wpAny_pure ⟨plainId_quiet F.plain_tuple_new _, codeAny_builtin F.entry_tuple_new ?_⟩))
  rw [Around.under_plainId F.plain_tuple_new _]
  have hsub := sub_tuple_self
  have hinit := init_tuple_lookup
  have hmh := madeHere_tuple
  have hTI : s.TypeIs (.ref r) T := K.type s hok
  have hh1 : A.in1.handled = none := hh
  have hnt := K.notTuple
  wp_walk using wpAny_typeOf hTI, kdu_collect (A := A.in1) K hh1 hok hn
  intro h' tk acc hk hacc
  show wpAny _ _ (Builtin.Tuple.tupleExact acc.toList.toArray >>= fun v => ret v) _ _ _
  unfold Builtin.Tuple.tupleExact
  refine wpAny_bind (wpAny_newObj_type ?_ (by show acc.toList.toArray.size ≤ sizeLine; simp only [Array.toArray_toList]; rw [hacc.1]; exact hn))
  refine wpAny_pure ?_
  have e : acc.toList.toArray = acc := by simp
  rw [e]
  exact h h' tk acc hk hacc
theorem call_tuple_kdl {Q : Value → Shared → Prop} (K : KdlSrc prog w T r d n P OK) (hh : A.handled = none) (hok : OK s.heap) (hn : n ≤ sizeLine)
    (hQ : ∀ (h' : Heap) (tk : Nat) (acc : Array Value), (∀ b o, s.heap.get? b = some o → h'.get? b = some o) → ItemsOf P acc n →
      Q (.ref h'.objs.size) { s with heap := h'.push { cls := .type "tuple", data := .seq acc }, toks := tk }) :
    wpAny (model prog w) A (call (.type "tuple") [.ref r]) Q E s := by
  refine callType_codes (Q₁ := fun obj s₁ => s₁.TypeIs obj "tuple" ∧ Q obj s₁) F.called_tuple (F.typeCall_tuple_1 _) F.entry_object_init
    (code_tuple_new_kdl (A := A.in1) K hh hok hn fun h' tk acc hk hacc => ⟨⟨_, Heap.get?_push_size _ rfl, rfl⟩, hQ h' tk acc hk hacc⟩) fun obj s₁ h₁ => ?_
  exact ⟨h₁.1, F.args_object_init_2 obj _, object_init_meets F.called_tuple.init.lookup F.called_tuple.made (by decide) prog w A.in1 _ s₁ ⟨h₁.1, rfl, h₁.2⟩⟩
end
def tTupKeys (td : TE) : TE := fun σ H Q => td σ H fun x H1 => ∃ d kvs, x = .ref d ∧ H1 d = some (.dK kvs) ∧ ∀ q, H1 q = none → Q (.ref q) (upd H1 q (.tup (kvs.map fun kv => kV kv.1)))
theorem pe_tupKeys {X : Cx} {e : Expr} {td : TE} {p pos apos cpos : Pos} (hm : X.mg "tuple" = none) (he : PE X e td) (hc : X.calm = true := by rfl) (hg : Gl X "tuple" := by rfl) (hbase : attributeBase e "keys" X.env (eval e X.env) = eval e X.env := by rfl) (hline : (apos.endLine == cpos.line) = true := by rfl)
    (na : starEach [.Call (.Attribute e "keys" apos) [] [] cpos] X.env = (false, eval (.Call (.Attribute e "keys" apos) [] [] cpos) X.env) :: starEach [] X.env := by rfl) :
    PE X (.Call (.Name "tuple" p) [.Call (.Attribute e "keys" apos) [] [] cpos] [] pos) (tTupKeys td) := by
  refine ⟨fun pins s σ H Q I h => ?_⟩
  refine Call_ (ld_blt I hg hm boot_tuple (PyProof.Rows.callWith_type1 (args_cons ?_ na) na))
  refine wpAny_Call_method (T := "dict") (id := "dict.keys") hbase rfl hline F.plainAttrs_dict F.slot_dict_keys F.type_dict_keys (thn (he.run pins s σ H _ I h) fun u s1 ⟨x, H1, I1, rx, d, kvs, ex, hd, q⟩ => ?_)
  subst ex
  obtain rfl : u = Value.ref d := rx
  obtain ⟨z, lo, vs, rk, hdt⟩ := (show ObjOk X.prog X.w H1 s1.heap d (.dK kvs) from I1.hok d _ hd)
  obtain ⟨ep, hat⟩ := hdt.dictAt
  have hl : kvs.length = vs.length := Paired.length rk
  refine ⟨hat.dictOf.typeIs, hat.dictOf.mapOf.noDict, ?_⟩
  have k2 : ∀ b o, s1.heap.get? b = some o → (s1.heap.push { cls := .type "dict_keys", data := .fields #[.ref d] }).get? b = some o := fun b ob q => Heap.get?_push_of_some _ q
  have I2 : Inv X pins σ H1 { s1 with heap := s1.heap.push { cls := .type "dict_keys", data := .fields #[.ref d] } } := I1.kept (t' := s1.toks) k2
  have view : PySem.W.KdlKeysView (s1.heap.push { cls := .type "dict_keys", data := .fields #[.ref d] }) s1.heap.objs.size d := ⟨_, Heap.get?_push_size _ rfl, rfl, rfl⟩
  have fin : wpAny (model X.prog X.w) X.A (call (.type "tuple") [.ref s1.heap.objs.size]) (EP X pins σ Q) X.xe { s1 with heap := s1.heap.push { cls := .type "dict_keys", data := .fields #[.ref d] } } := by
    refine call_tuple_kdl (PySem.W.kdl_keys (knd := mixKind X.prog X.w) (kvs := vs) (ep := ep) (d := d)) (I1.ok.hd hc) ⟨view, hat.push _⟩ (by rw [← hl]; exact z) fun h' tk acc hk hacc => ?_
    have I3 : Inv X pins σ H1 { s1 with heap := h', toks := tk } := I2.kept (h' := h') (t' := tk) hk
    have el : acc.toList.length = acc.size := by simp
    have rv : Vals (kvs.map fun kv => kV kv.1) acc.toList := by
      refine vals_of_at (by rw [List.length_map, el, hacc.1, hl]) fun j x w h1 h2 => ?_
      obtain ⟨k, y, hky, hi⟩ := hacc.2 j w (by rw [← Array.getElem?_toList]; exact h2)
      have e1 : (kvs.map (·.1))[j]? = some k := by
        rw [KV.keys rk, List.getElem?_map, hky] <;> rfl
      have e2 : (kvs.map fun kv => kV kv.1)[j]? = some (kV k) := by
        have e3 : (kvs.map fun kv => kV kv.1) = (kvs.map (·.1)).map kV := by rw [List.map_map] <;> rfl
        rw [e3, List.getElem?_map, e1] <;> rfl
      rw [e2] at h1
      cases h1
      exact keyIs_rel hi
    have hz : (kvs.map fun kv => kV kv.1).length ≤ sizeLine := by rw [List.length_map]; exact z
    have I4 : Inv X pins σ (upd H1 h'.objs.size (.tup (kvs.map fun kv => kV kv.1))) { s1 with heap := h'.push { cls := .type "tuple", data := .seq acc }, toks := tk } := by
      refine I3.laid (t' := tk) (fun b o e => Heap.get?_push_of_some _ e) (Nat.le_refl _) (show ObjOk X.prog X.w _ _ _ (.tup _) from ⟨hz, acc.toList, rv, ?_⟩)
      have e5 : acc.toList.toArray = acc := by simp
      rw [e5]
      exact ⟨_, Heap.get?_push_size _ rfl, rfl, _, rfl⟩
    exact ⟨.ref h'.objs.size, _, I4, rfl, q _ (I3.hok.fresh (Nat.le_refl _))⟩
  show wpAny _ _ (callWith cpos (.builtin "dict.keys") [.ref d] [] []) _ X.xe s1
  exact method_meetsIn F.slot_dict_keys F.entry_dict_keys rfl (PySem.evalArgs_none ⟨rfl, hat.dictOf.typeIs, F.args_dict_keys_1 _, _, PySem.W.kdl_meets_keys (mixKind X.prog X.w) d lo, ⟨vs, hat.dictOf⟩, args_nil fin⟩)

/-! ## xs != [] of any list -/
def rNeE (K : PySem.W.Frag) : R2 := fun x y H Q => ∃ a b xs, x = .ref a ∧ y = .ref b ∧ SqL K H a xs ∧ SqL K H b [] ∧ Q (.bl (!xs.isEmpty)) H
theorem op_neE {X : Cx} (hu : X.A.units < cLine) : OpR X (compareOp .NotEq) (rNeE X.K) := by
  intro pins s σ H x y v u Q I rx ry h
  obtain ⟨a, b, xs, rfl, rfl, ha, hb, q⟩ := h
  obtain rfl : v = .ref a := rx
  obtain rfl : u = .ref b := ry
  obtain ⟨its, r1, p1, z1⟩ := I.list ha
  obtain ⟨jts, r2, p2, z2⟩ := I.list hb
  cases r2
  cases r1 with
  | nil => exact SeqAt.RcNeAt.lists (e := fun _ => true) p1.isList p2.isList rfl hu (fun j h1 _ => absurd h1 (by simp)) X.prog X.w _ _ ⟨.bl _, H, I, rfl, q⟩
  | cons r t => exact SeqAt.RcNeAt.lists_lengths p1.isList p2.isList (by simp) hu X.prog X.w _ _ ⟨.bl _, H, I, rfl, q⟩
/-! ## what never changes: tuples, instances of the classes T -/
def ImmO (T : Addr → Prop) : HO → Prop
  | .tup _ => True
  | .ins C _ _ => T C
  | _ => False
def Imm (T : Addr → Prop) (H H' : Hp) : Prop := ∀ b o, H b = some o → ImmO T o → H' b = some o
theorem Same.imm {T : Addr → Prop} {H H' : Hp} (s : Same H H') : Imm T H H' := fun b o e _ => s b o e
theorem Imm.refl {T : Addr → Prop} (H : Hp) : Imm T H H := fun _ _ e _ => e
theorem Imm.trans {T : Addr → Prop} {H H1 H2 : Hp} (a : Imm T H H1) (b : Imm T H1 H2) : Imm T H H2 := fun c o e i => b c o (a c o e i) i
/-- a store to what may change -/
theorem Imm.mut {T : Addr → Prop} {H : Hp} {p : Addr} {o u : HO} (h : H p = some u) (n : ¬ ImmO T u) : Imm T H (upd H p o) := fun b v e i => by
  rw [upd_ne]
  · exact e
  · rintro rfl
    rw [h] at e
    cases e
    exact n i
theorem Imm.new {T : Addr → Prop} {H : Hp} {p : Addr} {o : HO} (h : H p = none) : Imm T H (upd H p o) := Same.imm (Same.new h)
/-- all but what stands at p -/
def But (p : Addr) (H H' : Hp) : Prop := ∀ b o, H b = some o → b ≠ p → H' b = some o
theorem Same.but {p : Addr} {H H' : Hp} (s : Same H H') : But p H H' := fun b o e _ => s b o e
theorem But.trans {p : Addr} {H H1 H2 : Hp} (a : But p H H1) (b : But p H1 H2) : But p H H2 := fun c o e n => b c o (a c o e n) n
theorem But.upd {p : Addr} {H : Hp} {o : HO} : But p H (upd H p o) := fun b u e n => by rw [upd_ne n]; exact e
theorem But.imm {T : Addr → Prop} {p : Addr} {u : HO} {H H' : Hp} (s : But p H H') (h : H p = some u) (n : ¬ ImmO T u) : Imm T H H' := fun b o e i => s b o e (by
  rintro rfl
  rw [h] at e
  cases e
  exact n i)
theorem But.same {p : Addr} {H0 H H' : Hp} (s0 : Same H0 H) (s : But p H H') (h : H0 p = none) : Same H0 H' := fun b o e => s b o (s0 b o e) (ne_of_none e h)

/-! ## comprehensions: the list so far -/
theorem lc_push {H1 H4 : Hp} {D : Addr} {L : List V} {i : Nat} {y : V} (s : Same H1 H4) (nD : H1 D = none) (h : H4 D = some (.lst (L.take i))) (hy : L[i]? = some y) (hl : L.length ≤ 1000000) :
    ∃ acc, H4 D = some (.lst acc) ∧ acc.length < sizeLine ∧ (Same H1 (upd H4 D (.lst (acc ++ [y]))) ∧ upd H4 D (.lst (acc ++ [y])) D = some (.lst (L.take (i + 1)))) := by
  refine ⟨_, h, ?_, Same.mut s nD, ?_⟩
  · rw [List.length_take, sizeLine_eq]
    omega
  · rw [upd_same, List.take_succ, hy]
    rfl
theorem lk1 {f m : Str} {v : V} (h : (m == f) = false) : List.lookup m [(f, v)] = none := by
  simp [List.lookup, h]
theorem lk1s {f : Str} {v : V} : List.lookup f [(f, v)] = some v := by
  simp [List.lookup]
/-! ## xs == [] of any list; xs.count(y) of flat things; isinstance(t, tuple) -/
def rEqE (K : PySem.W.Frag) : R2 := fun x y H Q => ∃ a b xs, x = .ref a ∧ y = .ref b ∧ SqL K H a xs ∧ SqL K H b [] ∧ Q (.bl xs.isEmpty) H
theorem op_eqE {X : Cx} (hu : X.A.units < cLine) : OpR X (compareOp .Eq) (rEqE X.K) := by
  intro pins s σ H x y v u Q I rx ry h
  obtain ⟨a, b, xs, rfl, rfl, ha, hb, q⟩ := h
  obtain rfl : v = .ref a := rx
  obtain rfl : u = .ref b := ry
  obtain ⟨its, r1, p1, z1⟩ := I.list ha
  obtain ⟨jts, r2, p2, z2⟩ := I.list hb
  cases r2
  cases r1 with
  | nil => exact SeqAt.RcAt.lists (e := fun _ => true) p1.isList p2.isList rfl hu (fun j h1 _ => absurd h1 (by simp)) X.prog X.w _ _ ⟨.bl _, H, I, rfl, q⟩
  | cons r t => exact SeqAt.RcAt.lists_lengths p1.isList p2.isList (by simp) hu X.prog X.w _ _ ⟨.bl _, H, I, rfl, q⟩
theorem count_eqU {x : V} : ∀ {xs : List V} {us : List Value}, Vals xs us → xs.all flatV = true → us.countP (eqU x) = xs.countP fun y => eqV y x
  | _, _, .nil, _ => rfl
  | y :: xs, u :: us, .cons r t, f => by
    rw [List.all_cons, Bool.and_eq_true] at f
    rw [List.countP_cons, List.countP_cons, eqU_of r f.1, count_eqU t f.2]
def rCntF (K : PySem.W.Frag) : V → List V → Hp → VK → Prop := fun x xs H Q => ∃ (p : Addr) (ys : List V) (y : V), x = .ref p ∧ xs = [y] ∧ SqL K H p ys ∧ flatV y = true ∧ ys.all flatV = true ∧ Q (.int ((ys.countP fun z => eqV z y : Nat) : Int)) H
theorem mt_countF {X : Cx} : MtR X "list.count" (rCntF X.K) := by
  intro pins s σ H x xs v us Q I rx rxs h
  obtain ⟨p, ys, y, rfl, rfl, hs, fy, fys, q⟩ := h
  cases rx
  cases rxs with
  | cons ry rt =>
    rename_i uy ut
    cases rt
    obtain ⟨its, rv, ⟨⟨cls, dd, data, sl⟩, n, ho, hc, hdn, hd⟩, hlen⟩ := I.list hs
    simp only at hc hd
    subst hc hd
    refine call_meets PySem.F.slot_list_count ⟨_, ho, rfl⟩ PySem.F.entry_list_count (PySem.F.args_list_count_2 _ _)
      (SeqAt.list_countAt p its.toArray n dd sl uy (eqU y)) ⟨ho, fun w hw => mem_eqAt ry fy rv fys w (by simpa using hw), ?_⟩
    have ec : its.toArray.toList.countP (eqU y) = ys.countP fun z => eqV z y := by
      show its.countP (eqU y) = _
      exact count_eqU rv fys
    refine ⟨.int _, H, I.tok _, ⟨s.toks, ?_⟩, q⟩
    rw [ec]
def rIsTup (K : PySem.W.Frag) : List V → Hp → VK → Prop := fun xs H Q => ∃ a vs, xs = [.ref a, .ty "tuple"] ∧ H a = some (.tup vs) ∧ Q (.bl true) H
theorem call_isTup {X : Cx} : CallR X (.builtin "isinstance") (rIsTup X.K) := by
  intro pins s σ H xs us Q I r h
  obtain ⟨a, vs, rfl, ha, q⟩ := h
  exact call_isi pins s σ H _ us Q I r ⟨_, _, _, _, true, rfl, .ty "tuple", .base (.tup ha), kit_ty (by decide +kernel), q⟩
/-! ## slices of lists -/
theorem cutV_to (l : List V) (n : Nat) : cutV l none (some (n : Int)) = l.take n := by
  unfold cutV
  rw [HT.sIx_none, HT.sIx_nat, List.drop_zero, Nat.sub_zero]
  by_cases h : n ≤ l.length
  · rw [Nat.min_eq_left h]
  · rw [Nat.min_eq_right (by omega), List.take_of_length_le (Nat.le_refl _), List.take_of_length_le (by omega)]
theorem cutV_from (l : List V) (n : Nat) : cutV l (some (n : Int)) none = l.drop n := by
  unfold cutV
  rw [HT.sIx_none, HT.sIx_nat]
  by_cases h : n ≤ l.length
  · rw [Nat.min_eq_left h, List.take_of_length_le (by rw [List.length_drop]; omega)]
  · rw [Nat.min_eq_right (by omega), List.drop_of_length_le (Nat.le_refl _), List.drop_of_length_le (by omega)]
    simp
theorem cutV_last (l : List V) : cutV l none (some (-1)) = l.dropLast := by
  unfold cutV
  rw [HT.sIx_none, List.drop_zero, Nat.sub_zero, List.dropLast_eq_take]
  congr 1
  show (if (-1 : Int) < 0 then ((-1 : Int) + (l.length : Int)).toNat else min (-1 : Int).toNat l.length) = _
  rw [if_pos (by decide)]
  omega
theorem slL_to {K : PySem.W.Frag} {H : Hp} {a : Addr} {xs : List V} {i : Int} {Q : VK} (n : Nat) (e : i = (n : Int)) (h : SqL K H a xs) (k : ∀ p, H p = none → Q (.ref p) (upd H p (.lst (xs.take n)))) : rSlL K (.ref a) none (some i) H Q :=
  ⟨a, xs, rfl, h, fun p np => by rw [e, cutV_to]; exact k p np⟩
theorem slL_from {K : PySem.W.Frag} {H : Hp} {a : Addr} {xs : List V} {i : Int} {Q : VK} (n : Nat) (e : i = (n : Int)) (h : SqL K H a xs) (k : ∀ p, H p = none → Q (.ref p) (upd H p (.lst (xs.drop n)))) : rSlL K (.ref a) (some i) none H Q :=
  ⟨a, xs, rfl, h, fun p np => by rw [e, cutV_from]; exact k p np⟩
theorem slL_last {K : PySem.W.Frag} {H : Hp} {a : Addr} {xs : List V} {Q : VK} (h : SqL K H a xs) (k : ∀ p, H p = none → Q (.ref p) (upd H p (.lst xs.dropLast))) : rSlL K (.ref a) none (some (-1)) H Q :=
  ⟨a, xs, rfl, h, fun p np => by rw [cutV_last]; exact k p np⟩
end Ru

set_option Elab.async false
set_option linter.all false
set_option maxRecDepth 100000
set_option maxHeartbeats 2000000
/-! what is raised: defs that may raise, one's own classes of errors, a def that is asked while one is handled -/
namespace Ru
open PySem PySem.Spec PyProof.Rows L2

/-! ## defs that may raise -/
section
variable {P : Program} {w : World} {K : PySem.W.Frag} {mg : Str → Option Value} {base : Heap}
theorem fnAt_okX {x : Str} {st : Stmt} {N ps : List Str} {k : Nat} {sp : Sp} (D : DefAt K mg x st ps) (S : FnScope N ps (defScope st)) (len : ∀ vs H Q E, sp vs H Q E → vs.length = ps.length)
    (hbody : ∀ (f : Addr) (cdv : Value) (A : Around) (outer : List Env) (s : Shared) (H : Hp) (vs : List V) (Q : VK) (E : XK), Room k (A.deeper (envOfC x (defScope st) s.heap.objs.size f cdv)) → sp vs H Q E →
      ∃ t, PSs (cxOf (L2.CX P w) P w K mg base N x (defScope st) f cdv A outer s H E) (defBody st) t ∧ t { nx := fun _ H' => Q .non H', rt := Q } (start N vs) H) : FnAt P w K mg base (L2.CX P w) x (k + 1) ps sp := by
  obtain ⟨f, fd, h1, h2, h3⟩ := D.ex
  obtain ⟨oc, od, kV, doc, pm, an, cdv, ct, osl, e, lk, hcd⟩ := h2.ex
  subst e
  exact ⟨f, _, h1, h2.kp, h3, fn_of lk hcd S len fun A outer s H vs Q E hr hsp => hbody f cdv A outer s H vs Q E hr hsp⟩
theorem methAt_okX {C : Addr} {m qual : Str} {st : Stmt} {N ps : List Str} {k : Nat} {sp : Sp} (c : Cls K C) (D : MethAt K C m qual st ps) (S : FnScope N ps (defScope st)) (len : ∀ vs H Q E, sp vs H Q E → vs.length = ps.length)
    (hbody : ∀ (f : Addr) (cdv : Value) (A : Around) (outer : List Env) (s : Shared) (H : Hp) (vs : List V) (Q : VK) (E : XK), Room k (A.deeper (envOfC qual (defScope st) s.heap.objs.size f cdv)) → sp vs H Q E →
      ∃ t, PSs (cxOf (L2.CX P w) P w K mg base N qual (defScope st) f cdv A outer s H E) (defBody st) t ∧ t { nx := fun _ H' => Q .non H', rt := Q } (start N vs) H) :
    ∃ f fd, Cls K C ∧ Meth K C m f ∧ Binds K fd ps [] ∧ FnOk P w K mg base (L2.CX P w) (k + 1) f fd ps sp := by
  obtain ⟨f, fd, h1, h2, h3⟩ := D.ex
  obtain ⟨oc, od, kV, doc, pm, an, cdv, ct, osl, e, lk, hcd⟩ := h2.ex
  subst e
  exact ⟨f, _, c, h1, h3, fn_of lk hcd S len fun A outer s H vs Q E hr hsp => hbody f cdv A outer s H vs Q E hr hsp⟩
end
/-- what a callee lets out leaves the def, too -/
theorem passX {X : Cx} {E : XK} (tk : L2.Takes X fun cls d _ H => E cls d H) : Passes (L2.CX X.prog X.w) X E := L2.passes_call tk fun _ _ _ _ h => h
/-- around a try nothing is let out -/
theorem takesN {X : Cx} : L2.Takes X (fun _ _ _ _ => False) := fun _ _ x => by
  obtain ⟨_, _, _, _, _, _, _, _, _, _, _, _, _, _, _, _, z⟩ := x
  exact z.elim
section
variable {X : Cx} {W : WX} {j k : Nat} {ps : List Str} {sp : Sp} {x : Str} {p pos : Pos} {e : Expr} {es : List Expr} {t : TA}
/-- f(e, ..) within a try -/
theorem pe_callT (F : FnAt X.prog X.w X.K X.mg X.base (L2.CX X.prog X.w) x k ps sp) (hr : Room j X.A) (tk : L2.Takes X W) (ha : PA X (e :: es) t) (hj : k ≤ j := by decide) (hg : Gl X x := by rfl)
    (hdb : (x == ("__debug__" : Str)) = false := by decide) (he : starEach (e :: es) X.env = (false, eval e X.env) :: starEach es X.env := by rfl) (hpl : (backTo pos (starEach es X.env)).any (·.1) = false := by rfl) :
    PE X (.Call (.Name x p) (e :: es) [] pos) (tCallS sp (WE W) t) := by
  obtain ⟨f, fd, h1, h2, h3, h4⟩ := F.ex
  exact pe_callS h4 (hr.mono hj) hg h1 h2 h3 (fun σ => L2.passAt tk σ) ha hdb he hpl
end

/-! ## one's own classes of errors -/
/-- a class of errors called x, at C, over L, over ValueError -/
structure ExcAt (K : PySem.W.Frag) (mg : Str → Option Value) (x : Str) (C L : Addr) : Prop where
  gP : mg x = some (.ref C)
  xP : PySem.W.excIn K C [.type "ValueError", .type "Exception", .type "BaseException", .type "object"] "ValueError.__new__" = true
  kP : PySem.W.keepIn K (.ref C) = true
  is_ : ExcC K C
  tP : PySem.W.typeIn K (.ref C) = some (.type "type")
  mro : ∃ cd, PySem.W.clsIn K C = some cd ∧ cd.mro = [.ref C, .ref L, .type "ValueError", .type "Exception", .type "BaseException", .type "object"]
/-- the class over them -/
structure ErrAt (K : PySem.W.Frag) (mg : Str → Option Value) (x : Str) (L : Addr) : Prop where
  gP : mg x = some (.ref L)
  sub : PySem.W.subIn K (.ref L) (.type "BaseException") = some true
  tP : PySem.W.typeIn K (.ref L) = some (.type "type")
  hd : PySem.W.hasDictIn K L = true
theorem excAt_mk {K : PySem.W.Frag} {mg : Str → Option Value} {h : Heap} {x : Str} {C L : Addr} {cd : ClassData} (X : K.In h) (G : h.Ns mainGlobals mg) (a : PySem.W.nsIn K mainGlobals x = some (some (.ref C)))
    (b : PySem.W.excIn K C [.type "ValueError", .type "Exception", .type "BaseException", .type "object"] "ValueError.__new__" = true) (c : PySem.W.keepIn K (.ref C) = true)
    (d : PySem.W.findIn K (.ref C) "__getattribute__" = some (some (.builtin "BaseException.__getattribute__"))) (e : PySem.W.findIn K (.ref C) "__getattr__" = some none) (f : PySem.W.subIn K (.ref C) (.type "BaseException") = some true) (g : PySem.W.hasDictIn K C = true)
    (i : PySem.W.findIn K (.ref C) "__class__" = some (some (.builtin "object.__class__"))) (j : PySem.W.specialIn K (.builtin "object.__class__") "__get__" = some (some (.builtin "getset_descriptor.__get__"))) (k : PySem.W.takesIn K (.builtin "object.__class__") = some true)
    (l : PySem.W.mroIn K C (.type "object") = some true) (m : PySem.W.typeIn K (.ref C) = some (.type "type")) (n : PySem.W.clsIn K C = some cd) (o : cd.mro = [.ref C, .ref L, .type "ValueError", .type "Exception", .type "BaseException", .type "object"]) : ExcAt K mg x C L :=
  ⟨PySem.W.mg_of X G a, b, c, ⟨d, e, f, g, i, j, k, l⟩, m, cd, n, o⟩
theorem errAt_mk {K : PySem.W.Frag} {mg : Str → Option Value} {h : Heap} {x : Str} {L : Addr} (X : K.In h) (G : h.Ns mainGlobals mg) (a : PySem.W.nsIn K mainGlobals x = some (some (.ref L)))
    (b : PySem.W.subIn K (.ref L) (.type "BaseException") = some true) (c : PySem.W.typeIn K (.ref L) = some (.type "type")) (d : PySem.W.hasDictIn K L = true) : ErrAt K mg x L := ⟨PySem.W.mg_of X G a, b, c, d⟩
section
variable {K : PySem.W.Frag} {mg mg' : Str → Option Value} {x y : Str} {C D L M : Addr}
theorem ExcAt.subs (T : ExcAt K mg x C L) (v : Value) : PySem.W.subIn K (.ref C) v = some ([.ref C, .ref L, .type "ValueError", .type "Exception", .type "BaseException", .type "object"].contains v) := by
  obtain ⟨cd, h1, h2⟩ := T.mro
  show PySem.W.mroIn K C v = _
  unfold PySem.W.mroIn
  rw [h1, Option.bind_some, h2]
  rfl
theorem ExcAt.caught (T : ExcAt K mg x C L) (E : ErrAt K mg' y L) : PySem.W.exmOne K (.ref C) (.ref L) = some true := by
  refine PySem.W.exm_ref E.sub E.hd E.tP ?_
  rw [T.subs]
  congr 1
  simp
/-- isinstance(e, D) of an error of class C -/
theorem ExcAt.kit (T : ExcAt K mg x C L) (U : ExcAt K mg' y D L) (nl : C ≠ L ∧ D ≠ L) : PySem.W.kitOne K (.ref C) (.ref D) = some (decide (C = D)) := by
  obtain ⟨cd, h1, h2⟩ := U.mro
  unfold PySem.W.kitOne
  by_cases h : C = D
  · rw [if_pos (by rw [h]; exact beq_self_eq_true _), decide_eq_true h]
  · rw [if_neg (by rw [beq_iff_eq]; intro q; exact h (Value.ref.inj q)), decide_eq_false h]
    show (if ((PySem.W.clsIn K D).isSome && PySem.W.typeIn K (.ref D) == some (.type "type")) = true then PySem.W.subIn K (.ref C) (.ref D) else none) = _
    rw [h1, U.tP, if_pos (show ((some cd).isSome && some (Value.type "type") == some (Value.type "type")) = true from rfl), T.subs]
    congr 1
    have e1 : (Value.ref D == Value.ref C) = false := by
      rw [beq_eq_false_iff_ne]
      intro q
      exact h (Value.ref.inj q).symm
    have e2 : (Value.ref D == Value.ref L) = false := by
      rw [beq_eq_false_iff_ne]
      intro q
      exact nl.2 (Value.ref.inj q)
    rw [List.contains_cons, e1, List.contains_cons, e2]
    rfl
theorem ExcAt.kitV (T : ExcAt K mg x C L) : PySem.W.kitOne K (.ref C) (.type "ValueError") = some true := by
  unfold PySem.W.kitOne
  rw [if_neg (by rw [beq_iff_eq]; intro q; cases q)]
  show (if PySem.W.kitMeta "ValueError" = true then PySem.W.subIn K (.ref C) (.type "ValueError") else none) = _
  rw [if_pos (by decide +kernel), T.subs]
  congr 1
end
section
variable {X : Cx} {W : WX} {C L : Addr} {x m : Str} {j : Nat} {p p2 pos pos' : Pos}
/-- raise C('m') -/
theorem ps_raiseO (hc : X.calm = true) (T : ExcAt X.K X.mg x C L) (tk : L2.Takes X W) (hg : Gl X x := by rfl) (hdb : (x == ("__debug__" : Str)) = false := by decide) :
    PS X (.Raise (some (.Call (.Name x p) [.Constant (.str m) j p2] [] pos)) none pos') (fun _ σ H => W (.ref C) none σ H) :=
  L2.ps_raise hc tk (L2.pmk_own PySem.F.excBase_ValueError T.xP T.gP T.kP (raises_own T.is_.hs T.tP) hg hdb)
end

/-! ## a def that is asked of the error that is handled -/
/-- the promise of a def that bears the handled error's object p among its arguments -/
structure FnP (P : Program) (w : World) (K : PySem.W.Frag) (mg : Str → Option Value) (base : Heap) (CX : CXT) (k : Nat) (f : Addr) (fd : FuncData) (ps : List Str) (sp : Addr → Value → Option Addr → Sp) : Prop where
  len : ∀ a c d vs H Q E, sp a c d vs H Q E → vs.length = ps.length
  run : ∀ (A : Around) (outer : List Env) (s : Shared) (H : Hp) (args : Args) (us : List Value) (vs : List V) (Q : VK) (E : XK) (p : Addr × Obj) (c : Value) (d : Option Addr), Zc c d p.2 → (∃ vs, p.2.data = .fields vs) → L2H.RoomH k A → L2H.PinOk outer H s p → Env0 P w K mg base A outer s H → BindsTo s fd args (ps.zip us) → Vals vs us → sp p.1 c d vs H Q E →
    codeAny (model P w) A (.call (.ref f) args) (CR CX outer P w H s Q E) s
structure FnPAt (P : Program) (w : World) (K : PySem.W.Frag) (mg : Str → Option Value) (base : Heap) (cx : CXT) (x : Str) (k : Nat) (ps : List Str) (sp : Addr → Value → Option Addr → Sp) : Prop where
  ex : ∃ f fd, mg x = some (.ref f) ∧ PySem.W.keepIn K (.ref f) = true ∧ Binds K fd ps [] ∧ FnP P w K mg base cx k f fd ps sp
theorem fnPAt_ok {P : Program} {w : World} {K : PySem.W.Frag} {mg : Str → Option Value} {base : Heap} {x : Str} {st : Stmt} {N ps : List Str} {k : Nat} {sp : Addr → Value → Option Addr → Sp} (D : DefAt K mg x st ps) (S : FnScope N ps (defScope st)) (len : ∀ a c d vs H Q E, sp a c d vs H Q E → vs.length = ps.length)
    (hbody : ∀ (f : Addr) (cdv : Value) (A : Around) (outer : List Env) (s : Shared) (H : Hp) (vs : List V) (Q : VK) (E : XK) (p : Addr × Obj) (c : Value) (d : Option Addr), Zc c d p.2 → (∃ vs, p.2.data = .fields vs) → L2H.RoomH k (A.deeper (envOfC x (defScope st) s.heap.objs.size f cdv)) → sp p.1 c d vs H Q E →
      ∃ t, PSs (L2H.cxH CX0 P w K mg base N x (defScope st) f cdv A outer s H E p).nox (defBody st) t ∧ t { nx := fun _ H' => Q .non H', rt := Q } (start N vs) H) : FnPAt P w K mg base CX0 x (k + 1) ps sp := by
  obtain ⟨f, fd, h1, h2, h3⟩ := D.ex
  obtain ⟨oc, od, kV, doc, pm, an, cdv, ct, osl, e, lk, hcd⟩ := h2.ex
  subst e
  refine ⟨f, _, h1, h2.kp, h3, len, fun A outer s H args us vs Q E p cl d hz hf hr hpin e0 hb r hsp => ?_⟩
  have there : K.In s.heap := e0.mod.kin.keeps fun b o z => (e0.bs b o z).1
  have seen : ∀ y ∈ ps.zip us, (defScope st).names.lookup y.1 = some .local ∨ ((defScope st).names.lookup y.1 = some .cell ∧ ((cellsFrom (s.heap.objs.size + 1) (defScope st).names []).lookup y.1).isSome = true) := fun y hy =>
    (S.par y.1 (List.of_mem_zip hy).1).imp id fun q => ⟨q, PySem.W.cellsFrom_some _ _ _ (.inl q)⟩
  refine codeAny_call_function hr.depth (there _ _ lk) rfl S.co S.gen rfl (PySem.W.codeRec_of there hcd) (hb _ _ _ _ (wpAny_newFunctionEnv_cells S.kind seen fun env he s1 y => ?_))
  subst he
  have lim : s.heap.NoLimit := e0.mod.nolimit.keeps fun b o z => (e0.bs b o z).1
  refine ⟨lim.keeps y.toInCall.keep, codeAny_func ?_⟩
  obtain ⟨t, ht, hq⟩ := hbody f cdv A outer s H vs Q E p cl d hz hf (hr.deeper _) hsp
  refine wpAny_mono (ht.nox.run [] s1 (L2.start N vs) H _ (L2H.inv_startH S hpin e0 (len _ _ _ _ _ _ _ hsp) r y) hq) (fun fl s' hs => ?_) fun e s' hs => hs
  match fl, hs with
  | .ret u, ⟨v, _, H', J, rv, q⟩ => exact ⟨v, H', J.os, J.bare, J.base, J.hok, rv, q⟩
  | .next, ⟨_, H', J, q⟩ => exact ⟨.non, H', J.os, J.bare, J.base, J.hok, rfl, q⟩
  | .brk, ⟨_, _, _, q⟩ => exact False.elim q
  | .cont, ⟨_, _, _, q⟩ => exact False.elim q
/-- f(e, ..) in an except suite -/
theorem pe_callP {X : Cx} {a : Addr} {oe : Obj} {pn : List (Addr × Obj)} {j k : Nat} {x : Str} {ps : List Str} {sp : Addr → Value → Option Addr → Sp} {cls : Value} {d : Option Addr} {q pos : Pos} {e : Expr} {es : List Expr} {t : TA} (F : FnPAt X.prog X.w X.K X.mg X.base CX0 x k ps sp) (hz : Zc cls d oe) (hf : ∃ vs, oe.data = .fields vs) (hr : Room j X.A)
    (ha : PA (X.suite a ((a, oe) :: pn)) (e :: es) t) (hj : k ≤ j := by decide) (hg : Gl X x := by rfl)
    (hdb : (x == ("__debug__" : Str)) = false := by decide) (he : starEach (e :: es) X.env = (false, eval e X.env) :: starEach es X.env := by rfl) (hpl : (backTo pos (starEach es X.env)).any (·.1) = false := by rfl) :
    PE (X.suite a ((a, oe) :: pn)) (.Call (.Name x q) (e :: es) [] pos) (tCall (sp a cls d) [] E0 t) := by
  obtain ⟨f, fd, h1, h2, h3, h4⟩ := F.ex
  have room0 := (L2H.roomH_of hr).mono hj
  have room : L2H.RoomH k (X.suite a ((a, oe) :: pn)).A := ⟨room0.dp, room0.un⟩
  refine ⟨fun pins s σ H Q I h => wpAny_Call_Name_kw (ld_glob I hg h1 (PySem.W.callWith_K (h₀ := X.base) I.ok.mod.kin h2 (thn (ha.run pos pins s σ H _ I h) fun us s1 ⟨vs, H1, I1, r, z⟩ => ⟨I1.kIn, ?_⟩) he hpl) hdb)⟩
  have z : sp a cls d (vs ++ []) H1 Q E0 := z
  rw [List.append_nil] at z
  have b := h3 s1 us I1.kIn (by rw [List.append_nil, ← r.length]; exact h4.len _ _ _ _ _ _ _ z)
  rw [List.append_nil] at b
  obtain ⟨g1, g2, g3, g4, g5⟩ := I1.pin (a, oe) (List.mem_append_left _ List.mem_cons_self)
  refine wpAny_call (codeAny_mono (h4.run _ (X.suite a ((a, oe) :: pn)).stack s1 H1 ⟨us, []⟩ us vs Q E0 (a, oe) cls d hz hf room ⟨g1, g2, fun hm => (List.mem_cons.mp (I1.stkSub a hm)).elim g3 g4, g5⟩ I1.env0 b r z) fun r s' hq => ?_)
  match r, hq with
  | .error e, hq => exact False.elim hq
  | .ok (.ret u), hq => exact I1.after hq
  | .ok .next, hq => exact False.elim hq
  | .ok .brk, hq => exact False.elim hq
  | .ok .cont, hq => exact False.elim hq
/-- isinstance(e, c) in such a def, p's object an error of class C -/
def rIsP (K : PySem.W.Frag) (C : Addr) (p : Addr × Obj) : List V → Hp → VK → Prop := fun xs H Q => ∃ (c : V) (cv : Value) (b : Bool), xs = [.ref p.1, c] ∧ (∀ u, RelV c u → u = cv) ∧ PySem.W.kitOne K (.ref C) cv = some b ∧ Q (.bl b) H
/-- of some classes -/
def rIsPT (K : PySem.W.Frag) (C : Addr) (p : Addr × Obj) : List V → Hp → VK → Prop := fun xs H Q => ∃ (tp : Addr) (cs : List V) (us : List Value) (b : Bool), xs = [.ref p.1, .ref tp] ∧ H tp = some (.tup cs) ∧ Paired ClsV cs us ∧ PySem.W.kitAny K (.ref C) us = some b ∧ Q (.bl b) H
theorem instAt_of {h : Heap} {a D : Addr} {oe : Obj} (g : h.get? a = some oe) (hz : Zc (.ref D) none oe) (hf : ∃ vs, oe.data = .fields vs) : PySem.W.InstAt h a oe D none := by
  obtain ⟨vs, hv⟩ := hf
  refine ⟨g, hz.1, ?_, ?_⟩
  · unfold PySem.W.notCls
    rw [hv]
  · rw [hz.2]
    trivial
section
variable {X : Cx} {C : Addr} {p : Addr × Obj}
theorem call_isP (T : ExcC X.K C) (hz : Zc (.ref C) none p.2) (hf : ∃ vs, p.2.data = .fields vs) (hp : p ∈ X.pn) : CallR X (.builtin "isinstance") (rIsP X.K C p) := by
  intro pins s σ H xs us Q I r h
  obtain ⟨c, cv, b, rfl, hcv, e, q⟩ := h
  obtain ⟨u, w', rfl, ru, rw'⟩ := vals2 r
  cases (show u = Value.ref p.1 from ru)
  have ec := hcv _ rw'
  subst ec
  exact PySem.W.kia_one (PySem.W.handS_kitx_exc T.hg T.hk T.hs T.hd T.ha T.hn T.ht T.hm) I.kIn (instAt_of (I.pin p (List.mem_append_left _ hp)).1 hz hf) e (fun z => nomatch z) fun tk => ⟨.bl b, H, I.tok tk, rfl, q⟩
theorem call_isPT (T : ExcC X.K C) (hz : Zc (.ref C) none p.2) (hf : ∃ vs, p.2.data = .fields vs) (hp : p ∈ X.pn) : CallR X (.builtin "isinstance") (rIsPT X.K C p) := by
  intro pins s σ H xs us Q I r h
  obtain ⟨tp, cs, ws, b, rfl, hT, k, e, q⟩ := h
  obtain ⟨u, w', rfl, ru, rw'⟩ := vals2 r
  cases (show u = Value.ref p.1 from ru)
  cases (show w' = Value.ref tp from rw')
  obtain ⟨_, its, rv, o, h1, h2, n, h3⟩ := (show ObjOk X.prog X.w H s.heap tp (.tup cs) from I.hok tp _ hT)
  have e3 := ClsV.all k rv
  subst e3
  obtain ⟨oc, od, dt, sl⟩ := o
  simp only at h2 h3
  subst h2 h3
  exact PySem.W.kia_tup (PySem.W.handS_kitx_exc T.hg T.hk T.hs T.hd T.ha T.hn T.ht T.hm) I.kIn (instAt_of (I.pin p (List.mem_append_left _ hp)).1 hz hf) h1 e (fun z => nomatch z) fun tk => ⟨.bl b, H, I.tok tk, rfl, q⟩
end
/-- a class of errors as a value -/
theorem pe_exc {X : Cx} {x : Str} {C L : Addr} {pos : Pos} (h : ExcAt X.K X.mg x C L) (hg : Gl X x := by rfl) (hd : (x == ("__debug__" : Str)) = false := by decide) : PE X (.Name x pos) (tC (.ref C)) := pe_glob hg h.gP rfl hd
/-! ## t[::-1] of a tuple -/
theorem pick_rev (xs : Array Value) : ((List.range xs.size).filterMap fun (m : Nat) => xs[(((xs.size : Int) - 1) + (m : Int) * (-1)).toNat]?).toArray = xs.toList.reverse.toArray := by
  congr 1
  have e : ∀ m ∈ List.range xs.size, xs[(((xs.size : Int) - 1) + (m : Int) * (-1)).toNat]? = xs[xs.size - 1 - m]? := by
    intro m hm
    have := List.mem_range.mp hm
    congr 1
    omega
  have cong : ∀ (l : List Nat) (f g : Nat → Option Value), (∀ m ∈ l, f m = g m) → l.filterMap f = l.filterMap g := by
    intro l f g
    induction l with
    | nil => intro _; rfl
    | cons a r ih =>
      intro h
      rw [List.filterMap_cons, List.filterMap_cons, h a List.mem_cons_self, ih fun m hm => h m (List.mem_cons_of_mem _ hm)]
  rw [cong _ _ _ e]
  have e2 : (List.range xs.size).filterMap (fun m => xs[xs.size - 1 - m]?) = ((List.range xs.size).map fun k => xs.size - 1 - k).filterMap (xs[·]?) := by
    rw [List.filterMap_map]
    rfl
  rw [e2, PySem.W.krv_range, List.filterMap_reverse, PySem.W.krv_all]
section
variable {prog : Program} {w : World} {A : Around} {E : Value → Shared → Prop} {s : Shared}
theorem sliceApplied_rev {sl : Addr} {vs : Value} {n : Nat} {Q : Int × Int × Nat → Shared → Prop} (hs : s.heap.IsSliceOf sl .none .none vs) (ps : IsPart vs (some (-1))) (h : Q ((n : Int) - 1, -1, n) s) :
    wpAny (model prog w) A (Builtin.Slice.sliceApplied (.ref sl) (pure (n : Int))) Q E s := by
  obtain ⟨os, hos, hcs, hds⟩ := id hs
  unfold Builtin.Slice.sliceApplied Builtin.Slice.sliceFields
  refine wpAny_bind (wpAny_bind (wpAny_field hos hds (x := .none) rfl (wpAny_bind (wpAny_field hos hds (x := .none) rfl (wpAny_bind (wpAny_field hos hds (x := vs) rfl (wpAny_pure ?_)))))))
  refine wpAny_bind (HT.slicePart_ ps ?_)
  show wpAny _ _ (if ((-1 : Int) == 0) = true then _ else _) _ _ s
  rw [if_neg (by decide)]
  refine wpAny_bind (HT.slicePart_ .none (wpAny_bind (HT.slicePart_ .none (wpAny_bind (wpAny_pure ?_)))))
  have e : Builtin.Slice.slicePlaces ((n : Int) - 1) (-1) (-1) = n := by
    unfold Builtin.Slice.slicePlaces
    rw [if_neg (by decide)]
    by_cases hn : (n : Int) - 1 > -1
    · rw [if_pos hn, show (- -1 : Int) = 1 by decide, Int.ediv_one]
      omega
    · rw [if_neg hn]
      omega
  show wpAny _ _ (pure ((n : Int) - 1, (-1 : Int), Builtin.Slice.slicePlaces ((n : Int) - 1) (-1) (-1))) _ _ s
  rw [e]
  exact wpAny_pure h
theorem getItem_tuple_rev {t sl : Addr} {items : Array Value} {vs : Value} {Q : Value → Shared → Prop} (ht : IsTup s.heap t items) (hs : s.heap.IsSliceOf sl .none .none vs) (ps : IsPart vs (some (-1)))
    (h : Q (.ref s.heap.objs.size) { s with heap := s.heap.push { cls := .type "tuple", data := .seq items.toList.reverse.toArray } }) (hsz : items.size ≤ sizeLine) : wpAny (model prog w) A (getItem (.ref t) (.ref sl)) Q E s := by
  have room : sizeOk (.seq items.toList.reverse.toArray) := by
    show items.toList.reverse.toArray.size ≤ sizeLine
    rw [List.size_toArray, List.length_reverse, Array.length_toList]
    exact hsz
  obtain ⟨os, hos, hcs, hds⟩ := id hs
  have hTs : s.TypeIs (.ref sl) "slice" := ⟨os, hos, hcs⟩
  unfold getItem
  try with_reducible refine wpAny_holding ?_
  first | refine wpAny_bind (wpAny_pure ?_) | skip
  refine wpAny_bind (wpAny_sequenceKey ht.typeIs (by decide) ?_)
  refine wpAny_bind (wpAny_callSpecial?_slot (name := Str.ofString "__getitem__") ht.typeIs PyProof.Rows.slot_tuple_getitem
    (wpAny_call_entry PyProof.Rows.slot_tuple_getitem ht.typeIs entry_tuple_getitem ?_ (args_tuple_getitem _ _)))
  show wpAny _ _ (Builtin.Tuple.tupleItemsOf (.ref t) >>= _) _ _ s
  refine wpAny_bind (tupleItemsOf_ ht ?_)
  refine wpAny_bind (wpAny_typeOf hTs ?_)
  rw [if_pos (by decide)]
  refine wpAny_bind (sliceApplied_rev hs ps ?_)
  show wpAny _ _ (if ((items.size : Int) - 1 == 0 && (-1 : Int) == 1 && items.size == items.size) = true then _ else _) _ _ s
  rw [if_neg (by rw [show ((-1 : Int) == 1) = false from rfl, Bool.and_false, Bool.false_and]; exact Bool.false_ne_true), pick_rev]
  first
    | exact wpAny_bind (m := Builtin.Tuple.tupleExact _) (wpAny_newObj_type (wpAny_pure ⟨_, rfl, wpAny_pure h⟩) room)
    | exact wpAny_bind (m := Builtin.Tuple.tupleExact _) (wpAny_newObj_type (wpAny_bind (wpAny_pure (wpAny_pure ⟨_, rfl, wpAny_pure h⟩))) room)
    | exact wpAny_bind (wpAny_bind (m := Builtin.Tuple.tupleExact _) (wpAny_newObj_type (wpAny_pure (wpAny_pure ⟨_, rfl, wpAny_pure h⟩)) room))
    | exact wpAny_bind (wpAny_bind (m := Builtin.Tuple.tupleExact _) (wpAny_newObj_type (wpAny_pure ⟨_, rfl, wpAny_pure h⟩) room))
end
def tRevT (K : PySem.W.Frag) (te : TE) : TE := fun σ H Q => te σ H fun x H1 => ∃ a xs, x = .ref a ∧ SqT K H1 a xs ∧ ∀ p, H1 p = none → Q (.ref p) (upd H1 p (.tup xs.reverse))
theorem pe_revT {X : Cx} {e : Expr} {te : TE} {k : Nat} {p1 p2 p3 pos : Pos} (he : PE X e te) : PE X (.Subscript e (.Slice none none (some (.UnaryOp .USub (.Constant (.int 1) k p1) p2)) p3) pos) (tRevT X.K te) := by
  refine ⟨fun pins s σ H Q I h => ?_⟩
  refine Subscript_ (thn (he.run pins s σ H _ I h) fun v s1 ⟨x, H1, I1, r1, a, xs, ex, hx, q⟩ => ?_)
  subst ex
  cases r1
  have hst : PO X (some (.UnaryOp .USub (.Constant (.int 1) k p1) p2)) (tPart (tUn (rU fun i => .int (-i)) (tC (.int 1)))) := po_some (pe_un un_neg pe_int)
  refine wpAny_Slice ?_
  rw [evalPart_none]
  refine wpAny_pure ?_
  refine wpAny_pure ?_
  refine thn (hst.run pins s1 σ H1 (fun o H4 => o = some (-1) ∧ H4 = H1) I1 ⟨1, rfl, -1, rfl, rfl, rfl⟩) fun vs s4 ⟨o, H4, I4, ps, eo, e4⟩ => ?_
  subst eo e4
  have I5 : Inv X pins σ H4 { s4 with heap := s4.heap.push { cls := .type "slice", data := .fields #[.none, .none, vs] } } := I4.kept (t' := s4.toks) fun b ob q => Heap.get?_push_of_some _ q
  obtain ⟨its, r, ht, hz⟩ := I5.tuple hx
  have hlen := r.length
  show wpAny (model X.prog X.w) X.A (subscriptTail e (.Slice none none (some (.UnaryOp .USub (.Constant (.int 1) k p1) p2)) p3) (.ref a) (.ref s4.heap.objs.size)) (EP X pins σ Q) X.xe { s4 with heap := s4.heap.push { cls := .type "slice", data := .fields #[.none, .none, vs] } }
  refine tail_any (ops := [.ref a, .ref s4.heap.objs.size]) ht.typeIs PyProof.Rows.slot_tuple_getitem.lookup ?_ (by with_unfolding_all rfl)
  refine getItem_tuple_rev ht (Heap.IsSliceOf.new _ .none .none vs) ps ?_ (by rw [List.size_toArray]; omega)
  refine ⟨.ref _, _, I5.laid (t' := s4.toks) (o := .tup xs.reverse) (fun b ob q => Heap.get?_push_of_some _ q) (Nat.le_refl _) ?_, rfl, q _ (I5.hok.fresh (Nat.le_refl _))⟩
  exact ⟨by rw [List.length_reverse]; exact hz, _, by simpa using r.reverse, IsTup.new _ _⟩

/-! ## C.m(o, ..): a def of a class, read off the class itself -/
structure ClsFnAt (K : PySem.W.Frag) (C : Addr) (m qual : Str) (st : Stmt) (ps : List Str) : Prop where
  ex : ∃ f fd, PySem.W.readsIn K C (.type "type") = true ∧ PySem.W.specialIn K (.ref C) "__getattribute__" = some (some (.builtin "type.__getattribute__")) ∧ PySem.W.findCls K (.ref C) (.type "type") m = some (.val (.ref f)) ∧ Fun K m qual st f fd ∧ Binds K fd ps []
theorem clsFnAt_mk {K : PySem.W.Frag} {C : Addr} {m qual : Str} {st : Stmt} {ps : List Str} {f : Addr} {oc : Value} {od an : Option Addr} {osl : Array (Option Value)} {kV doc pm cdv ct : Value}
    (r : PySem.W.readsIn K C (.type "type") = true) (g : PySem.W.specialIn K (.ref C) "__getattribute__" = some (some (.builtin "type.__getattribute__"))) (a : PySem.W.findCls K (.ref C) (.type "type") m = some (.val (.ref f)))
    (l : K.lookup f = some ⟨oc, od, .func (PySem.W.fnOf m qual (defArgs st) (defBody st) (defScope st) .none kV doc pm an cdv ct), osl⟩)
    (c : PySem.W.codeIn K cdv qual = true) (k : PySem.W.keepIn K (.ref f) = true)
    (b : ∀ us : List Value, us.length = ps.length → bindArgs (PySem.W.fnOf m qual (defArgs st) (defBody st) (defScope st) .none kV doc pm an cdv ct) ⟨us, []⟩ = pure (ps.zip us)) : ClsFnAt K C m qual st ps :=
  ⟨f, _, r, g, a, fun_mk l c k, .all b⟩
/-- the promise of a def that is read off the class C -/
structure ClsFn (P : Program) (w : World) (K : PySem.W.Frag) (mg : Str → Option Value) (base : Heap) (cx : CXT) (C : Addr) (m : Str) (k : Nat) (ps : List Str) (sp : Sp) : Prop where
  ex : ∃ f fd, PySem.W.readsIn K C (.type "type") = true ∧ PySem.W.specialIn K (.ref C) "__getattribute__" = some (some (.builtin "type.__getattribute__")) ∧ PySem.W.findCls K (.ref C) (.type "type") m = some (.val (.ref f)) ∧ PySem.W.keepIn K (.ref f) = true ∧ Binds K fd ps [] ∧ FnOk P w K mg base cx k f fd ps sp
theorem clsFn_okX {P : Program} {w : World} {K : PySem.W.Frag} {mg : Str → Option Value} {base : Heap} {C : Addr} {m qual : Str} {st : Stmt} {N ps : List Str} {k : Nat} {sp : Sp} (D : ClsFnAt K C m qual st ps) (S : FnScope N ps (defScope st)) (len : ∀ vs H Q E, sp vs H Q E → vs.length = ps.length)
    (hbody : ∀ (f : Addr) (cdv : Value) (A : Around) (outer : List Env) (s : Shared) (H : Hp) (vs : List V) (Q : VK) (E : XK), Room k (A.deeper (envOfC qual (defScope st) s.heap.objs.size f cdv)) → sp vs H Q E →
      ∃ t, PSs (cxOf (L2.CX P w) P w K mg base N qual (defScope st) f cdv A outer s H E) (defBody st) t ∧ t { nx := fun _ H' => Q .non H', rt := Q } (start N vs) H) :
    ClsFn P w K mg base (L2.CX P w) C m (k + 1) ps sp := by
  obtain ⟨f, fd, h1, h2, h3, h4, h5⟩ := D.ex
  obtain ⟨oc, od, kV, doc, pm, an, cdv, ct, osl, e, lk, hcd⟩ := h4.ex
  subst e
  exact ⟨f, _, h1, h2, h3, h4.kp, h5, fn_of lk hcd S len fun A outer s H vs Q E hr hsp => hbody f cdv A outer s H vs Q E hr hsp⟩
theorem pe_clsF {X : Cx} {cx : CXT} {j k : Nat} {C : Addr} {ps : List Str} {sp : Sp} {E : XK} {m : Str} {pos apos : Pos} {e o : Expr} {es : List Expr} {t : TA} {pl : Sem Bool} (F : ClsFn X.prog X.w X.K X.mg X.base cx C m k ps sp) (hr : Room j X.A) (hx : Passes cx X E) (he : PE X o (tC (.ref C))) (ha : PA X (e :: es) t) (hj : k ≤ j := by decide)
    (hst : starEach (e :: es) X.env = (false, eval e X.env) :: starEach es X.env := by rfl) (hpl : (backTo pos (starEach es X.env)).any (·.1) = false := by rfl)
    (ht : eval (.Call (.Attribute o m apos) (e :: es) [] pos) X.env = (do
      let ov ← eval o X.env
      standAt apos.atName
      let (f, first) ← holding [ov] (getMethod ov m pl)
      callWith pos f first (backTo pos (starEach (e :: es) X.env)) (backToKw pos (keywordEach [] X.env))) := by rfl) :
    PE X (.Call (.Attribute o m apos) (e :: es) [] pos) (tCall sp [] E t) := by
  obtain ⟨f, fd, h1, h2, h3, h4, h5, h6⟩ := F.ex
  refine ⟨fun pins s σ H Q I h => ?_⟩
  refine PySem.W.methodCall_KW (pl := pl) (thn (he.run pins s σ H (fun x H1 => x = .ref C ∧ H1 = H) I ⟨rfl, rfl⟩) fun u s1 ⟨x, H1, I1, rx, ex, eh⟩ => ?_) ht
  subst ex eh
  obtain rfl : u = Value.ref C := rx
  refine PySem.W.method_cls I1.kIn h2 (PySem.W.cls_value I1.kIn h1 h3 rfl ?_)
  have I2 := I1.tok (s1.toks + 1)
  refine PySem.W.callWith_K (first := []) (h₀ := X.base) I.ok.mod.kin h4 (thn (ha.run pos pins _ σ H1 _ I2 h) fun us s2 ⟨vs, H2, I3, r, q2⟩ => ⟨I3.kIn, ?_⟩) hst hpl
  exact run_fn (us := us) (vs := vs) (dvs := []) (ds := []) h6 (hr.mono hj) h5 .nil hx I3 r q2

/-! ## what lets nothing out is calm -/
section
variable {P : Program} {w : World} {K : PySem.W.Frag} {mg : Str → Option Value} {base : Heap} {k : Nat} {ps : List Str} {sp : Sp}
theorem fnOk_calm {f : Addr} {fd : FuncData} (F : FnOk P w K mg base (L2.CX P w) k f fd ps sp) : FnOk P w K mg base CX0 k f fd ps (fun vs H Q _ => sp vs H Q E0) := by
  refine ⟨fun vs H Q E h => F.len vs H Q E0 h, fun A outer s H args us vs Q E hr e0 hb r h => ?_⟩
  refine codeAny_mono (F.run A outer s H args us vs Q E0 hr e0 hb r h) fun r s' z => ?_
  match r, z with
  | .error e, z =>
    obtain ⟨_, _, _, _, _, _, _, _, _, _, _, _, z⟩ := z
    exact z.elim
  | .ok (.ret u), z => exact z
  | .ok .next, z => exact z
  | .ok .brk, z => exact z
  | .ok .cont, z => exact z
theorem FnAt.calm {x : Str} (F : FnAt P w K mg base (L2.CX P w) x k ps sp) : FnAt P w K mg base CX0 x k ps (fun vs H Q _ => sp vs H Q E0) := by
  obtain ⟨f, fd, h1, h2, h3, h4⟩ := F.ex
  exact ⟨f, fd, h1, h2, h3, fnOk_calm h4⟩
theorem MakAt.calm {x : Str} {C : Addr} (F : MakAt P w K mg base (L2.CX P w) x C k ps sp) : MakAt P w K mg base CX0 x C k ps (fun vs H Q _ => sp vs H Q E0) := by
  obtain ⟨f, fd, h1, h2, h3, h4⟩ := F.ex
  exact ⟨f, fd, h1, h2, h3, fnOk_calm h4⟩
end
theorem DispAt.calm {P : Program} {w : World} {K : PySem.W.Frag} {mg : Str → Option Value} {base : Heap} {k : Nat} {ps : List Str} {T : Addr → Prop} {m : Str} {sp : Addr → Sp} (F : DispAt P w K mg base (L2.CX P w) T m k ps sp) : DispAt P w K mg base CX0 T m k ps (fun C vs H Q _ => sp C vs H Q E0) :=
  ⟨fun C t => let ⟨f, fd, h1, h2, h3, h4⟩ := F.ex C t; ⟨f, fd, h1, h2, h3, fnOk_calm h4⟩⟩
theorem call_isStr {X : Cx} : CallR X (.builtin "isinstance") (rIsF "str" isStrV) :=
  call_isF (by decide +kernel) (fun _ => (by decide +kernel : kitB "bool" "str" = some false)) (fun _ => (by decide +kernel : kitB "int" "str" = some false)) fun _ => (by decide +kernel : kitB "str" "str" = some true)
/-! ## two lists, one by the other -/
inductive Two {α : Type} (R : V → α → Prop) : List V → List α → Prop
  | nil : Two R [] []
  | cons {v : V} {vs : List V} {c : α} {cs : List α} (h : R v c) (t : Two R vs cs) : Two R (v :: vs) (c :: cs)
section
variable {α : Type} {R S : V → α → Prop}
theorem Two.mono (k : ∀ v c, R v c → S v c) : ∀ {vs : List V} {cs : List α}, Two R vs cs → Two S vs cs
  | _, _, .nil => .nil
  | _, _, .cons h t => .cons (k _ _ h) (t.mono k)
theorem Two.length : ∀ {vs : List V} {cs : List α}, Two R vs cs → vs.length = cs.length
  | _, _, .nil => rfl
  | _, _, .cons _ t => by rw [List.length_cons, List.length_cons, t.length]
theorem Two.at : ∀ {vs : List V} {cs : List α} {i : Nat} {v : V}, Two R vs cs → vs[i]? = some v → ∃ c, cs[i]? = some c ∧ R v c
  | _, _, i, v, .nil, h => by simp at h
  | _, _, 0, v, .cons p t, h => by
    simp at h
    subst h
    exact ⟨_, rfl, p⟩
  | _, _, i + 1, v, .cons p t, h => by
    obtain ⟨c, h1, h2⟩ := Two.at (i := i) (v := v) t (by simpa using h)
    exact ⟨c, by simpa using h1, h2⟩
theorem Two.app : ∀ {vs us : List V} {cs ds : List α}, Two R vs cs → Two R us ds → Two R (vs ++ us) (cs ++ ds)
  | _, _, _, _, .nil, q => q
  | _, _, _, _, .cons p t, q => .cons p (t.app q)
theorem Two.take : ∀ {vs : List V} {cs : List α} (i : Nat), Two R vs cs → Two R (vs.take i) (cs.take i)
  | _, _, 0, _ => by rw [List.take_zero, List.take_zero]; exact .nil
  | _, _, _ + 1, .nil => .nil
  | _, _, i + 1, .cons p t => .cons p (t.take i)
theorem Two.drop : ∀ {vs : List V} {cs : List α} (i : Nat), Two R vs cs → Two R (vs.drop i) (cs.drop i)
  | _, _, 0, h => h
  | _, _, _ + 1, .nil => .nil
  | _, _, i + 1, .cons p t => t.drop i
theorem Two.one {v : V} {c : α} (h : R v c) : Two R [v] [c] := .cons h .nil
end
/-- a tuple: one that was made, or a given one -/
def Tp (K : PySem.W.Frag) (H : Hp) (a : Addr) (xs : List V) : Prop := H a = some (.tup xs) ∨ ∀ H', SqT K H' a xs
theorem Tp.seq {K : PySem.W.Frag} {H : Hp} {a : Addr} {xs : List V} (h : Tp K H a xs) : SqT K H a xs := by
  rcases h with h | h
  · exact SqT.of h
  · exact h H
theorem Tp.mono {T : Addr → Prop} {K : PySem.W.Frag} {H H' : Hp} {a : Addr} {xs : List V} (k : Imm T H H') (h : Tp K H a xs) : Tp K H' a xs := by
  rcases h with h | h
  · exact .inl (k _ _ h trivial)
  · exact .inr h
theorem Imm.less {T S : Addr → Prop} {H H' : Hp} (l : ∀ C, S C → T C) (k : Imm T H H') : Imm S H H' := fun b o e i => k b o e (by
  cases o <;> first | exact i | exact l _ i)
theorem op_inK {X : Cx} (K : PySem.W.Frag) (h : X.K = K) : OpR X (compareOp .In) (rIn K false) := h ▸ op_in_seq
theorem op_notInK {X : Cx} (K : PySem.W.Frag) (h : X.K = K) : OpR X (compareOp .NotIn) (rIn K true) := h ▸ op_notIn_seq
/-! ## if: the test's end is told once, for both suites -/
def tIfG (c : TT) (t u : TS) : TS := fun D σ H => ∃ R : Bool → Hp → Prop, c σ H R ∧ ∀ b H', R b H' → if b = true then t D σ H' else u D σ H'
theorem ps_ifG {X : Cx} {c : Expr} {a b : List Stmt} {tc : TT} {t u : TS} {pos : Pos} (hc : PT X c tc) (ha : PSs X a t) (hb : PSs X b u) : PS X (.If c a b pos) (tIfG tc t u) := by
  refine ⟨fun pins s σ H D I h => ?_⟩
  obtain ⟨R, h, k⟩ := h
  refine wpAny_If (thn (hc.run pins s σ H _ I h) fun d s1 ⟨H1, I1, q1⟩ => ?_)
  have k := k d H1 q1
  cases d with
  | true => exact ha.run pins s1 σ H1 D I1 k
  | false => exact hb.run pins s1 σ H1 D I1 k
theorem cutV_neg_to (l : List V) (n : Nat) (h1 : 1 ≤ n) (h2 : n ≤ l.length) : cutV l none (some (-(n : Int))) = l.take (l.length - n) := by
  unfold cutV
  rw [HT.sIx_none, List.drop_zero, Nat.sub_zero]
  congr 1
  show (if -(n : Int) < 0 then (-(n : Int) + (l.length : Int)).toNat else min (-(n : Int)).toNat l.length) = _
  rw [if_pos (by omega)]
  omega
theorem cutV_neg_from (l : List V) (n : Nat) (h1 : 1 ≤ n) (h2 : n ≤ l.length) : cutV l (some (-(n : Int))) none = l.drop (l.length - n) := by
  have e : HT.sIx l.length 0 (some (-(n : Int))) = l.length - n := by
    show (if -(n : Int) < 0 then (-(n : Int) + (l.length : Int)).toNat else min (-(n : Int)).toNat l.length) = _
    rw [if_pos (by omega)]
    omega
  unfold cutV
  rw [HT.sIx_none, e, List.take_of_length_le (by rw [List.length_drop]; omega)]
end Ru

set_option Elab.async false
set_option linter.all false
set_option maxRecDepth 100000
/-! len(set(xs)), xs a list or a tuple of texts, any of them twice -/
namespace Ru
open PySem PySem.Spec PyProof.Rows
/-- how many unlike ones stand among the first i -/
def cntS (xs : List Str) : Nat → Nat
  | 0 => 0
  | i + 1 => if (xs.take i).any (· == xs.getD i Str.empty) = true then cntS xs i else cntS xs i + 1
theorem cntS_le (xs : List Str) : ∀ i, cntS xs i ≤ i
  | 0 => Nat.le_refl _
  | i + 1 => by
    have := cntS_le xs i
    rw [cntS]
    split <;> omega
theorem cntS_take (xs : List Str) : ∀ i, i ≤ xs.length → (cntS xs i = i ↔ (xs.take i).Nodup)
  | 0, _ => by simp [cntS]
  | i + 1, h => by
    have ih := cntS_take xs i (by omega)
    have hl := cntS_le xs i
    have e1 : xs.getD i Str.empty = xs[i] := by rw [List.getD_eq_getElem?_getD, List.getElem?_eq_getElem (by omega)]; rfl
    have e2 : xs.take (i + 1) = xs.take i ++ [xs[i]] := by rw [List.take_add_one, List.getElem?_eq_getElem (by omega)]; rfl
    rw [cntS, e1, e2, List.nodup_append]
    by_cases hm : xs[i] ∈ xs.take i
    · have ha : ((xs.take i).any fun x => x == xs[i]) = true := List.any_eq_true.mpr ⟨_, hm, beq_self_eq_true _⟩
      rw [if_pos ha]
      constructor
      · intro q; omega
      · intro q; exact absurd rfl (q.2.2 _ hm _ (List.mem_singleton.mpr rfl))
    · have ha : ¬ ((xs.take i).any fun x => x == xs[i]) = true := fun q => by
        obtain ⟨y, hy, ey⟩ := List.any_eq_true.mp q
        rw [eq_of_beq ey] at hy
        exact hm hy
      rw [if_neg ha]
      constructor
      · intro q
        refine ⟨ih.mp (by omega), by simp, fun a ha b hb e => ?_⟩
        rw [List.mem_singleton.mp hb] at e
        exact hm (e ▸ ha)
      · intro q
        have := ih.mpr q.1
        omega
theorem cntS_all (xs : List Str) : cntS xs xs.length = xs.length ↔ xs.Nodup := by
  have := cntS_take xs xs.length (Nat.le_refl _)
  rwa [List.take_length] at this
section
variable {prog : Program} {w : World} {A : Around} {I : Addr} {fp wr : List Addr} {n : Nat} {P : Nat → Value → Prop} {St : Nat → Heap → Prop}
/-- the set at S bears the first i of xs -/
def BearsS (prog : Program) (w : World) (h : Heap) (S : Addr) (xs : List Str) (i : Nat) : Prop := h.SetOf (PySem.strKind prog w) S (fun z => (xs.take i).any (· == z)) (cntS xs i)
theorem BearsS.keep {h h' : Heap} {S : Addr} {xs : List Str} {i : Nat} (q : BearsS prog w h S xs i) (k : ∀ o, h.get? S = some o → h'.get? S = some o) : BearsS prog w h' S xs i := by
  obtain ⟨o, es, ep, t, ho, r⟩ := q
  exact ⟨o, es, ep, t, k o ho, r⟩
theorem any_snoc (l : List Str) (x z : Str) : (l ++ [x]).any (· == z) = (l.any (· == z) || decide (z = x)) := by
  rw [List.any_append]
  congr 1
  by_cases e : z = x
  · subst e; simp
  · rw [decide_eq_false e]
    simp only [List.any_cons, List.any_nil, Bool.or_false]
    exact beq_eq_false_iff_ne.mpr fun q => e q.symm
/-- the loop of set.update over n texts -/
theorem loopTexts (W : Walks prog w A.in1 I fp wr n P St) (S : Addr) (hSf : S ∉ fp) (xs : List Str) (hsz : xs.length = n) (hn1 : n + 1 < scanBound) (hval : ∀ i v, P i v → ∃ t, v = .str (xs.getD i Str.empty) t)
    {R : Result → Shared → Prop} : ∀ (k i : Nat) (s : Shared), i + k = n → St i s.heap → BearsS prog w s.heap S xs i →
      (∀ h' tk, BearsS prog w h' S xs n → (∀ b o, b ≠ S → b ∉ wr → s.heap.get? b = some o → h'.get? b = some o) → R (.ok (.ret .none)) { s with heap := h', toks := tk }) →
      codeAny (model prog w) A (.builtin "set.update.loop" ⟨[.ref S, .ref I], []⟩) R s
  | 0, i, s, hk, hst, hS, hR => by
    obtain rfl : i = n := by omega
    refine codeAny_builtin PyProof.Rows.F.entry_set_update_loop ?_
    rw [Around.under_plainId PyProof.Rows.F.plain_set_update_loop _]
    show wpAny _ A.in1 (pyNext (.ref I) >>= _) _ _ s
    refine wpAny_bind (W.done s _ _ hst fun h' tk hm => ?_)
    show wpAny _ A.in1 (ret Value.none) _ _ _
    exact wpAny_pure (hR h' tk (hS.keep fun o e => hm S o (fun q => hSf (W.sub _ q)) e) fun b o _ hb e => hm b o hb e)
  | k + 1, i, s, hk, hst, hS, hR => by
    have hlt : i < xs.length := by omega
    refine codeAny_builtin PyProof.Rows.F.entry_set_update_loop ?_
    rw [Around.under_plainId PyProof.Rows.F.plain_set_update_loop _]
    show wpAny _ A.in1 (pyNext (.ref I) >>= _) _ _ s
    refine wpAny_bind (W.item i s _ _ (by omega) hst fun v h1 tk1 hP st1 hm => ?_)
    obtain ⟨t, rfl⟩ := hval i v hP
    have hS1 : BearsS prog w h1 S xs i := hS.keep fun o e => hm S o (fun q => hSf (W.sub _ q)) e
    show wpAny _ A.in1 (holding [Value.str (xs.getD i Str.empty) t] (setAdd S (.str (xs.getD i Str.empty) t)) >>= _) _ _ _
    refine wpAny_bind (wpAny_holding ?_)
    unfold setAdd
    refine wpAny_holding (wpAny_bind ((PySem.strKind prog w).pyHash (k := xs.getD i Str.empty) (PySem.strKind_is _ _ _ _) ?_))
    have hc := cntS_le xs i
    refine wpAny_setAddHashed_of (knd := PySem.strKind prog w) (PySem.strKind_is _ _ _ _) rfl hS1 (by unfold scanBound at hn1 ⊢; omega) fun h2 sb new => ?_
    have e1 : xs.take (i + 1) = xs.take i ++ [xs.getD i Str.empty] := by
      rw [List.take_add_one, List.getD_eq_getElem?_getD, List.getElem?_eq_getElem hlt]
      rfl
    have hS2 : BearsS prog w h2 S xs (i + 1) := by
      refine PyProof.Rows.SetOf_congr new (fun z => ?_) ?_
      · rw [e1, any_snoc]
      · rw [cntS]
    refine wpAny_pure ⟨plainId_quiet PyProof.Rows.F.plain_set_update_loop _, loopTexts W S hSf xs hsz hn1 hval k (i + 1) _ (by omega) (W.frame _ h1 _ st1 fun b hb o e => ?_) hS2 fun h3 tk3 hS3 hm3 => ?_⟩
    · exact (sb.2 b fun q => hSf (q ▸ hb)).trans e
    · exact hR h3 tk3 hS3 fun b o n1 n2 e => hm3 b o n1 n2 ((sb.2 b n1).trans (hm b o n2 e))
end
section
variable {prog : Program} {w : World} {A : Around} {E : Value → Shared → Prop} {s : Shared}
set_option maxHeartbeats 3200000 in
/-- set(xs), xs the list or the tuple at l -/
theorem call_setTexts {l : Addr} {items : Array Value} {xs : List Str} {Q : Value → Shared → Prop} (hh : A.handled = none) (hl : s.heap.IsList l items ∨ s.heap.IsTuple l items) (hi : PyProof.Rows.StrsAre items.toList xs) (hn1 : xs.length + 1 < scanBound)
    (h : ∀ (h' : Heap) (tk : Nat), BearsS prog w h' s.heap.objs.size xs xs.length → (∀ b o, b < s.heap.objs.size → s.heap.get? b = some o → h'.get? b = some o) → Q (.ref s.heap.objs.size) { s with heap := h', toks := tk }) :
    wpAny (model prog w) A (call (.type "set") [.ref l]) Q E s := by
  have hlen : xs.length = items.size := by rw [← PyProof.Rows.StrsAre.len_eq hi, Array.length_toList]
  have hval : ∀ (i : Nat) (v : Value), items[i]? = some v → ∃ t, v = .str (xs.getD i Str.empty) t := fun i v hv => SS.strs_at hi i v (by rw [Array.getElem?_toList]; exact hv)
  obtain ⟨c, tl, hmro⟩ := PySem.F.called_set.mro
  have hmade := PySem.F.called_set.made
  have hsub := PySem.F.called_set.sub
  refine wpAny_call (codeAny_of_tree ?_)
  show wpAny _ _ (callAny (.type "set") _) _ _ _
  refine wpAny_pure ⟨Code.quiet_builtin _ (by decide +kernel), codeAny_builtin PySem.F.entry_type_call ?_⟩
  rw [Around.under_plain (weight_type_call_type "set" [.ref l] []) rfl]
  have h1 := PySem.F.called_set.notType
  have h2 := PySem.F.called_set.canCreate
  have hct := PySem.F.typeCall_set_1 (.ref l)
  repeat (any_goals (first | assumption | wp_step))
  refine codeAny_mono (code_set_new_1 (.ref l) (E := E) (Q₁ := fun obj s₁ => ∃ led : Bool, obj = .ref s.heap.objs.size ∧ s₁ = { s with heap := s.heap.push { cls := .type "set", dict := none, data := .set #[] 0 (.fresh 0 0 led) } }) fun led => ⟨led, rfl, rfl⟩) fun r s₁ hr => ?_
  match r, hr with
  | .error e, hr => exact hr
  | .ok .next, hr => exact hr.elim
  | .ok .brk, hr => exact hr.elim
  | .ok .cont, hr => exact hr.elim
  | .ok (.ret obj), hr =>
    obtain ⟨led, rfl, rfl⟩ := hr
    have hS : (s.heap.push { cls := .type "set", dict := none, data := .set #[] 0 (.fresh 0 0 led) }).get? s.heap.objs.size = some { cls := .type "set", dict := none, data := .set #[] 0 (.fresh 0 0 led) } := Heap.get?_push_size _ rfl
    generalize eS : ({ cls := .type "set", dict := none, data := .set #[] 0 (.fresh 0 0 led) } : Obj) = oS at hS ⊢
    have hT : Shared.TypeIs { s with heap := s.heap.push oS } (.ref s.heap.objs.size) "set" := ⟨_, hS, by rw [← eS]⟩
    have hli := PySem.F.called_set.init.lookup
    have hbi := PySem.F.called_set.init.bind (.ref s.heap.objs.size)
    have hh3 : A.in1.in1.in1.handled = none := by simp [hh]
    repeat (any_goals (first | assumption | wp_step))
    refine codeAny_mono (codeAny_call_builtin (R := wants (fun r s₂ => r = .none ∧ ∃ h' tk, s₂ = { s with heap := h', toks := tk } ∧ BearsS prog w h' s.heap.objs.size xs xs.length ∧
        (∀ b o, b < s.heap.objs.size → s.heap.get? b = some o → h'.get? b = some o)) E) PySem.F.called_set.init.plain PySem.F.entry_set_init (check_set_init_1 hT ?_)) fun r₂ s₂ hr₂ => ?_
    · have fin : ∀ (oi : Obj) {St : Nat → Heap → Prop}, l < s.heap.objs.size → Walks prog w A.in1.in1.in1 (s.heap.push oS).objs.size [(s.heap.push oS).objs.size, l] [(s.heap.push oS).objs.size] items.size (fun i v => items[i]? = some v) St →
          St 0 ((s.heap.push oS).push oi) → ∀ R : Result → Shared → Prop, (∀ h' tk, BearsS prog w h' s.heap.objs.size xs xs.length → (∀ b o, b < s.heap.objs.size → s.heap.get? b = some o → h'.get? b = some o) → R (.ok (.ret .none)) { s with heap := h', toks := tk }) →
          codeAny (model prog w) A.in1.in1 (.builtin "set.update.loop" ⟨[.ref s.heap.objs.size, .ref (s.heap.push oS).objs.size], []⟩) R { s with heap := (s.heap.push oS).push oi } := by
        intro oi St hlS W st R hR
        have hz : (s.heap.push oS).objs.size = s.heap.objs.size + 1 := Heap.size_push ..
        have hget : ((s.heap.push oS).push oi).get? s.heap.objs.size = some oS := Heap.get?_push_of_some _ hS
        have nS : s.heap.objs.size ∉ [(s.heap.push oS).objs.size, l] := by
          rw [hz]
          simp only [List.mem_cons, List.not_mem_nil, or_false, not_or]
          exact ⟨Nat.ne_of_lt (Nat.lt_succ_self _), Nat.ne_of_gt hlS⟩
        refine loopTexts W s.heap.objs.size nS xs hlen (by rw [← hlen]; exact hn1) hval items.size 0 _ (by omega) st ?_ fun h' tk hb hk => ?_
        · subst eS
          exact PyProof.Rows.SetOf_congr ((PyProof.Rows.setObjOf_fresh (knd := PySem.strKind prog w) led).setOf hget (by unfold scanBound; omega)) (fun _ => rfl) rfl
        · rw [← hlen] at hb
          refine hR h' tk hb fun b o hlt e => hk b o (Nat.ne_of_lt hlt) (by rw [hz]; simp only [List.mem_cons, List.not_mem_nil, or_false]; exact Nat.ne_of_lt (Nat.lt_succ_of_lt hlt)) (Heap.get?_push_of_some _ (Heap.get?_push_of_some _ e))
      have hne1 : ∀ {c : Addr}, c < s.heap.objs.size → c ≠ (s.heap.push oS).objs.size := fun hc => by
        rw [Heap.size_push]; exact Nat.ne_of_lt (Nat.lt_succ_of_lt hc)
      rcases hl with hl | hl
      · obtain ⟨ol, hol, hcl, nl, hdl⟩ := hl
        obtain ⟨ocls, odict, odata, oslots⟩ := ol
        simp only at hcl hdl
        subst hcl hdl
        have hol' := Heap.get?_push_of_some oS hol
        have hl1 : (s.heap.push oS).IsList l items := ⟨_, hol', rfl, nl, rfl⟩
        have hlS : l < s.heap.objs.size := Heap.lt_size hol
        have k1 := PySem.F.sub_list_set
        have k2 := PySem.F.sub_list_frozenset
        have k3 : (Value.type "list" == Value.type "dict") = false := by decide
        subst eS
        unfold Builtin.«set.__init__» noKeywords Builtin.Frozenset.updateFrom
        generalize hPI : pyIter = PI
        wp_walk
        subst hPI
        refine wpAny_pyIter_list hl1 ?_
        refine wpAny_bind (wpAny_runValue ?_)
        refine fin _ hlS (Walks.list hh3 _ l (hne1 hlS) items) ⟨⟨_, Heap.get?_push_size _ rfl, rfl, rfl⟩, (hl1.push _)⟩ _ fun h' tk hb hk => ?_
        show wpAny _ _ _ _ _ _
        refine wpAny_pure ?_
        show wpAny _ _ (ret Value.none) _ _ _
        exact wpAny_pure ⟨rfl, h', tk, rfl, hb, hk⟩
      · obtain ⟨ol, hol, hcl, nl, hdl⟩ := hl
        obtain ⟨ocls, odict, odata, oslots⟩ := ol
        simp only at hcl hdl
        subst hcl hdl
        have hol' := Heap.get?_push_of_some oS hol
        have hl1 : (s.heap.push oS).IsTuple l items := ⟨_, hol', rfl, nl, rfl⟩
        have hlS : l < s.heap.objs.size := Heap.lt_size hol
        have k1 := PySem.F.sub_tuple_set
        have k2 := PySem.F.sub_tuple_frozenset
        have k3 : (Value.type "tuple" == Value.type "dict") = false := by decide
        subst eS
        unfold Builtin.«set.__init__» noKeywords Builtin.Frozenset.updateFrom
        generalize hPI : pyIter = PI
        wp_walk
        subst hPI
        refine wpAny_pyIter_tuple hl1 ?_
        refine wpAny_bind (wpAny_runValue ?_)
        refine fin _ hlS (Walks.tuple hh3 _ l (hne1 hlS) items) ⟨⟨_, Heap.get?_push_size _ rfl, rfl, rfl⟩, (hl1.push _)⟩ _ fun h' tk hb hk => ?_
        show wpAny _ _ _ _ _ _
        refine wpAny_pure ?_
        show wpAny _ _ (ret Value.none) _ _ _
        exact wpAny_pure ⟨rfl, h', tk, rfl, hb, hk⟩
    · match r₂, hr₂ with
      | .error e, hr₂ => exact hr₂
      | .ok .next, hr₂ => exact hr₂.elim
      | .ok .brk, hr₂ => exact hr₂.elim
      | .ok .cont, hr₂ => exact hr₂.elim
      | .ok (.ret r), hr₂ =>
        obtain ⟨rfl, h', tk, rfl, hS', hk'⟩ := hr₂
        repeat (any_goals (first | assumption | wp_step))
        exact h _ _ hS' hk'
end
/-! ### len(set(xs)) -/
def tLenSetS (K : PySem.W.Frag) (ta : L2.TE) : L2.TE := fun σ H Q => ta σ H fun x H1 => ∃ l, ∃ xs : List Str, x = .ref l ∧ (L2.SqL K H1 l (xs.map L2.V.str) ∨ L2.SqT K H1 l (xs.map L2.V.str)) ∧ xs.length ≤ 1000 ∧ ∀ n : Nat, n ≤ xs.length → (n = xs.length ↔ xs.Nodup) → Q (.int n) H1
open L2 in
theorem pe_lenSetS {X : Cx} {a : Expr} {ta : TE} {p p2 q pos : Pos} (hc : X.calm = true) (hg : Gl X "len") (hm : X.mg "len" = none) (hg2 : Gl X "set") (hm2 : X.mg "set" = none) (ha : PE X a ta)
    (na : starEach [a] X.env = (false, eval a X.env) :: starEach [] X.env := by rfl) : PE X (.Call (.Name "len" p) [.Call (.Name "set" p2) [a] [] q] [] pos) (tLenSetS X.K ta) := by
  refine ⟨fun pins s σ H Q I h => ?_⟩
  refine Call_ (ld_blt I hg hm boot_len ?_)
  refine PyProof.Rows.callWith_builtin1 (PyProof.Rows.args_cons ?_ rfl) rfl rfl
  refine Call_ (ld_blt I hg2 hm2 boot_set ?_)
  refine PyProof.Rows.callWith_type1 (PyProof.Rows.args_cons (thn (ha.run pins s σ H _ I h) fun v s1 ⟨x, H1, I1, r1, q1⟩ => PyProof.Rows.args_nil ?_) na) na rfl
  obtain ⟨l, xs, rfl, hq, hn, q1⟩ := q1
  cases r1
  have fin : ∀ (h' : Heap) (tk : Nat), BearsS X.prog X.w h' s1.heap.objs.size xs xs.length → (∀ b o, b < s1.heap.objs.size → s1.heap.get? b = some o → h'.get? b = some o) →
      wpAny (model X.prog X.w) X.A (spliced (backTo pos (starEach [] X.env))) (fun vs s₂ => wpAny (model X.prog X.w) X.A (call (.builtin "len") (Value.ref s1.heap.objs.size :: vs)) (EP X pins σ Q) X.xe s₂) X.xe { s1 with heap := h', toks := tk } := by
    intro h' tk hS hk
    refine PyProof.Rows.args_nil ?_
    obtain ⟨o, es, ep, t, ho, hex, hd, _, _, _, hf, hcn⟩ := hS
    have I2 : Inv X pins σ H1 { s1 with heap := h', toks := tk } := I1.kept fun b o e => hk b o (Heap.lt_size e) e
    have hle := cntS_le xs xs.length
    refine call_len_set ho hex hd hf (by rw [hcn]; omega) ⟨.int (cntS xs xs.length : Nat), H1, I2.tok _, ⟨_, by rw [hcn]⟩, q1 _ hle (cntS_all xs)⟩
  have hb : xs.length + 1 < scanBound := by unfold scanBound; omega
  rcases hq with hq | hq
  · obtain ⟨its, r, pl, hz⟩ := I1.list hq
    exact call_setTexts (I1.ok.hd hc) (.inl pl.isList) (by simpa using strsAre_of r) hb fin
  · obtain ⟨its, r, pl, hz⟩ := I1.tuple hq
    exact call_setTexts (I1.ok.hd hc) (.inr pl) (by simpa using strsAre_of r) hb fin
end Ru

set_option Elab.async false
set_option linter.all false
set_option maxRecDepth 100000
set_option maxHeartbeats 2000000
/-! zip of a tuple and a list: by what each iterator's next does, whichever it is -/
namespace Ru
open PySem PySem.Spec PyProof.Rows L2
/-- the iterator at i over ys, which stand at l; P: it stands at a place -/
structure Dr (prog : Program) (w : World) (i l : Addr) (ys : Array Value) (P : Heap → Nat → Prop) : Prop where
  keep : ∀ {e : Addr} {h h' : Heap} {k : Nat}, P h k → Heap.ExtBut e h h' → i ≠ e → l ≠ e → P h' k
  item : ∀ {A : Around} {E : Value → Shared → Prop} {s : Shared} {k : Nat} {y : Value} {Q : Value → Shared → Prop}, P s.heap k → ys[k]? = some y →
    (∀ h', P h' (k + 1) → Heap.SameBut i s.heap h' → Q y { s with heap := h' }) → wpAny (model prog w) A (Builtin.SmallTypes.nextOf (.ref i)) Q E s
  stop : ∀ {A : Around} {E : Value → Shared → Prop} {s : Shared} {k : Nat} {Q : Value → Shared → Prop}, A.handled = none → P s.heap k → ys[k]? = none →
    (∀ h' e, Heap.ExtBut i s.heap h' → (∃ o, h'.get? e = some o ∧ o.cls = .type "StopIteration") → E (.ref e) { s with heap := h' }) → wpAny (model prog w) A (Builtin.SmallTypes.nextOf (.ref i)) Q E s
theorem dr_tup {prog : Program} {w : World} {i l : Addr} {ys : Array Value} (n : l ≠ i) : Dr prog w i l ys fun h k => h.IsTupleIter i l k ∧ h.IsTuple l ys :=
  ⟨fun p x n1 n2 => ⟨p.1.extBut x n1, p.2.extBut x n2⟩, fun p hy q => RZ.nextOf_tuple_item p.1 p.2 hy fun h' a b => q h' ⟨a, p.2.extBut b.extBut n⟩ b, fun hh p hy q => RZ.nextOf_tuple_end hh p.1 p.2 hy q⟩
theorem dr_lst {prog : Program} {w : World} {i l : Addr} {ys : Array Value} (n : l ≠ i) : Dr prog w i l ys fun h k => h.IsListIter i l k ∧ h.IsList l ys :=
  ⟨fun p x n1 n2 => ⟨p.1.extBut x n1, p.2.extBut x n2⟩, fun p hy q => wpAny_nextOf_list_item p.1 p.2 hy fun h' a b => q h' ⟨a, p.2.extBut b.extBut n⟩ b, fun hh p hy q => wpAny_nextOf_list_end hh p.1 p.2 hy q⟩
section
variable {prog : Program} {w : World} {A : Around} {E : Value → Shared → Prop} {s : Shared} {z TI TO i1 i2 l1 l2 : Addr} {k1 k2 : Nat} {xs ys : Array Value} {x y a b : Value} {P1 P2 : Heap → Nat → Prop}
/-- the zip at z, its parts, as they stand -/
structure Zst (h : Heap) (z TI TO i1 i2 : Addr) (a b : Value) (f : Value) : Prop where
  z : IsZip h z TI TO f
  ti : IsPair h TI (.ref i1) (.ref i2)
  to : IsPair h TO a b
theorem zipD_item {Q : Value → Shared → Prop} (d1 : Dr prog w i1 l1 xs P1) (d2 : Dr prog w i2 l2 ys P2) (D : ZipApart z TI TO i1 i2 l1 l2) (g : Zst s.heap z TI TO i1 i2 a b .none) (p1 : P1 s.heap k1) (p2 : P2 s.heap k2) (hx : xs[k1]? = some x) (hy : ys[k2]? = some y)
    (q : ∀ h', Zst h' z TI TO i1 i2 x y (rawInt s.heap.objs.size) → P1 h' (k1 + 1) → P2 h' (k2 + 1) → IsPair h' s.heap.objs.size x y → (∀ c o, c ≠ z → c ≠ TO → c ≠ i1 → c ≠ i2 → s.heap.get? c = some o → h'.get? c = some o) → Q (.ref s.heap.objs.size) { s with heap := h' })
    (hl1 : l1 < s.heap.objs.size) (hl2 : l2 < s.heap.objs.size) (hi1 : i1 < s.heap.objs.size) (hi2 : i2 < s.heap.objs.size) :
    wpAny (model prog w) A (Builtin.«zip.__next__» ⟨[.ref z], []⟩) (fun fin s' => ∃ v, fin = .done (.ret v) ∧ Q v s') E s := by
  obtain ⟨gz, gi, go⟩ := g
  show wpAny _ _ (field (.ref z) 2 >>= fun _ => _) _ _ s
  refine wpAny_bind (wpAny_field gz rfl (x := .bool false) rfl (wpAny_bind (wpAny_field gz rfl (x := .ref TI) rfl (wpAny_bind (wpAny_seqItems gi rfl (wpAny_bind ?_))))))
  unfold Builtin.SmallTypes.ownedTupleIsFree
  refine wpAny_bind (wpAny_field gz rfl (x := .none) rfl (wpAny_pure ?_))
  rw [if_pos rfl]
  refine wpAny_bind (wpAny_rule (wpAny_bind (wpAny_field gz rfl (x := .ref TO) rfl (wpAny_bind (wpAny_setField_rec gz (by simp) fun ha za sa => ?_)))))
  have za : IsZip ha z TI TO .ellipsis := za
  have p1a := d1.keep p1 sa.extBut D.i1z D.l1z
  have p2a := d2.keep p2 sa.extBut D.i2z D.l2z
  refine wpAny_bind ?_
  simp only [List.zipIdx_cons, List.zipIdx_nil, List.forIn_cons, List.forIn_nil]
  -- the first one
  refine wpAny_bind (wpAny_bind (wpAny_onRaise ?_))
  show wpAny _ _ (Builtin.SmallTypes.nextOf (.ref i1) >>= fun _ => _) _ _ { s with heap := ha }
  refine wpAny_bind (d1.item (s := { s with heap := ha }) p1a hx fun hb p1b sb => wpAny_pure ?_)
  have ob : IsPair hb TO a b := sb.extBut _ _ D.TOi1 (sa.extBut _ _ D.TOz go)
  refine wpAny_bind (wpAny_seqItems ob rfl (wpAny_bind (wpAny_updateSeq_pair ob fun hc oc sc => wpAny_bind (wpAny_letGo (wpAny_pure ?_)))))
  have oc : IsPair hc TO x b := oc
  have p2c := d2.keep (d2.keep p2a sb.extBut D.i12.symm D.l2i1) sc.extBut D.TOi2.symm D.l2TO
  have p1c := d1.keep p1b sc.extBut D.TOi1.symm D.l1TO
  -- the second one
  refine wpAny_bind (wpAny_bind (wpAny_onRaise ?_))
  show wpAny _ _ (Builtin.SmallTypes.nextOf (.ref i2) >>= fun _ => _) _ _ { s with heap := hc }
  refine wpAny_bind (d2.item (s := { s with heap := hc }) p2c hy fun hd p2d sd => wpAny_pure ?_)
  have od : IsPair hd TO x b := sd.extBut _ _ D.TOi2 oc
  refine wpAny_bind (wpAny_seqItems od rfl (wpAny_bind (wpAny_updateSeq_pair od fun he oe se => wpAny_bind (wpAny_letGo (wpAny_pure (wpAny_pure ?_))))))
  have oe : IsPair he TO x y := oe
  have p1e := d1.keep (d1.keep p1c sd.extBut D.i12 D.l1i2) se.extBut D.TOi1.symm D.l1TO
  have p2e := d2.keep p2d se.extBut D.TOi2.symm D.l2TO
  have ze : IsZip he z TI TO .ellipsis := se.extBut _ _ D.TOz.symm (sd.extBut _ _ D.i2z.symm (sc.extBut _ _ D.TOz.symm (sb.extBut _ _ D.i1z.symm za)))
  have ke : ∀ c o, c ≠ z → c ≠ TO → c ≠ i1 → c ≠ i2 → s.heap.get? c = some o → he.get? c = some o := fun c o n1 n2 n3 n4 e => se.extBut _ _ n2 (sd.extBut _ _ n4 (sc.extBut _ _ n2 (sb.extBut _ _ n3 (sa.extBut _ _ n1 e))))
  have size : he.objs.size = s.heap.objs.size := by rw [se.1, sd.1, sc.1, sb.1, sa.1]
  refine wpAny_bind (wpAny_seqItems oe rfl (wpAny_bind (wpAny_newTuple ?_)))
  show wpAny _ _ (Builtin.SmallTypes.ownedTupleHandOut (.ref z) (.ref he.objs.size) >>= fun _ => _) _ _ _
  refine wpAny_bind ?_
  unfold Builtin.SmallTypes.ownedTupleHandOut
  have zf : IsZip (he.push { cls := .type "tuple", data := .seq #[x, y] }) z TI TO .ellipsis := Heap.get?_push_of_some _ ze
  refine wpAny_bind (wpAny_setField_rec zf (by simp) fun hg zg sg => ?_)
  have zg : IsZip hg z TI TO (rawInt he.objs.size) := zg
  refine wpAny_setField_rec zg (by simp) fun hk zk sk => wpAny_pure ⟨_, rfl, ?_⟩
  have zk : IsZip hk z TI TO (rawInt he.objs.size) := zk
  have up : ∀ c o, c ≠ z → he.get? c = some o → hk.get? c = some o := fun c o n e => sk.extBut _ _ n (sg.extBut _ _ n (Heap.get?_push_of_some _ e))
  have zlt : z < he.objs.size := Heap.lt_size ze
  have tk : IsPair hk he.objs.size x y := sk.extBut _ _ (Nat.ne_of_gt zlt) (sg.extBut _ _ (Nat.ne_of_gt zlt) (Heap.get?_push_size _ rfl))
  have ext : Heap.ExtBut z he hk := fun c o n e => up c o n e
  have ti : IsPair hk TI (.ref i1) (.ref i2) := up _ _ D.TIz (ke _ _ D.TIz D.TITO D.TIi1 D.TIi2 gi)
  rw [size] at zk tk
  show Q (.ref he.objs.size) _
  rw [size]
  exact q hk ⟨zk, ti, up _ _ D.TOz oe⟩ (d1.keep p1e ext D.i1z D.l1z) (d2.keep p2e ext D.i2z D.l2z) tk fun c o n1 n2 n3 n4 e => up c o n1 (ke c o n1 n2 n3 n4 e)
theorem zipD_stop {Q : PySem.Fin → Shared → Prop} (hh : A.handled = none) (d1 : Dr prog w i1 l1 xs P1) (d2 : Dr prog w i2 l2 ys P2) (D : ZipApart z TI TO i1 i2 l1 l2) (g : Zst s.heap z TI TO i1 i2 a b .none) (p1 : P1 s.heap k1) (p2 : P2 s.heap k2) (hend : xs[k1]? = none ∨ ys[k2]? = none)
    (q : ∀ h' e, (∀ c o, c ≠ z → c ≠ TO → c ≠ i1 → c ≠ i2 → s.heap.get? c = some o → h'.get? c = some o) → (∃ o, h'.get? e = some o ∧ o.cls = .type "StopIteration") → E (.ref e) { s with heap := h' }) :
    wpAny (model prog w) A (Builtin.«zip.__next__» ⟨[.ref z], []⟩) Q E s := by
  obtain ⟨gz, gi, go⟩ := g
  show wpAny _ _ (field (.ref z) 2 >>= fun _ => _) _ _ s
  refine wpAny_bind (wpAny_field gz rfl (x := .bool false) rfl (wpAny_bind (wpAny_field gz rfl (x := .ref TI) rfl (wpAny_bind (wpAny_seqItems gi rfl (wpAny_bind ?_))))))
  unfold Builtin.SmallTypes.ownedTupleIsFree
  refine wpAny_bind (wpAny_field gz rfl (x := .none) rfl (wpAny_pure ?_))
  rw [if_pos rfl]
  refine wpAny_bind (wpAny_rule (wpAny_bind (wpAny_field gz rfl (x := .ref TO) rfl (wpAny_bind (wpAny_setField_rec gz (by simp) fun ha za sa => ?_)))))
  have za : IsZip ha z TI TO .ellipsis := za
  have p1a := d1.keep p1 sa.extBut D.i1z D.l1z
  have p2a := d2.keep p2 sa.extBut D.i2z D.l2z
  -- the zip is free again, and what next raised goes out
  have out : ∀ {h : Heap} {e : Addr} {R : Unit → Shared → Prop}, IsZip h z TI TO .ellipsis → (∃ o, h.get? e = some o ∧ o.cls = .type "StopIteration") → (∀ c o, c ≠ z → c ≠ TO → c ≠ i1 → c ≠ i2 → s.heap.get? c = some o → h.get? c = some o) →
      (∀ h', R () { s with heap := h' } → True) → (∀ h', (∀ c o, c ≠ z → c ≠ TO → c ≠ i1 → c ≠ i2 → s.heap.get? c = some o → h'.get? c = some o) → (∃ o, h'.get? e = some o ∧ o.cls = .type "StopIteration") → R () { s with heap := h' }) →
      wpAny (model prog w) A (setField (.ref z) 0 .none) R E { s with heap := h } := by
    intro h e R gz ⟨oe, he, hc⟩ kp _ r
    have nz : e ≠ z := fun q => by
      rw [q, gz] at he
      cases he
      exact absurd hc (by simp)
    exact wpAny_setField_rec gz (by simp) fun h' _ sh => r h' (fun c o n1 n2 n3 n4 u => sh.extBut _ _ n1 (kp c o n1 n2 n3 n4 u)) ⟨oe, sh.extBut _ _ nz he, hc⟩
  refine wpAny_bind ?_
  simp only [List.zipIdx_cons, List.zipIdx_nil, List.forIn_cons, List.forIn_nil]
  refine wpAny_bind (wpAny_bind (wpAny_onRaise ?_))
  show wpAny _ _ (Builtin.SmallTypes.nextOf (.ref i1) >>= fun _ => _) _ _ { s with heap := ha }
  cases hx : xs[k1]? with
  | none =>
    refine wpAny_bind (d1.stop (s := { s with heap := ha }) hh p1a hx fun hb e sb st => ?_)
    exact out (sb _ _ D.i1z.symm za) st (fun c o n1 _ n3 _ u => sb _ _ n3 (sa.extBut _ _ n1 u)) (fun _ _ => trivial) fun h' kp st' => q h' e kp st'
  | some x =>
    have hy : ys[k2]? = none := hend.resolve_left fun u => by rw [hx] at u; cases u
    refine wpAny_bind (d1.item (s := { s with heap := ha }) p1a hx fun hb p1b sb => wpAny_pure ?_)
    have ob : IsPair hb TO a b := sb.extBut _ _ D.TOi1 (sa.extBut _ _ D.TOz go)
    refine wpAny_bind (wpAny_seqItems ob rfl (wpAny_bind (wpAny_updateSeq_pair ob fun hc oc sc => wpAny_bind (wpAny_letGo (wpAny_pure ?_)))))
    have p2c := d2.keep (d2.keep p2a sb.extBut D.i12.symm D.l2i1) sc.extBut D.TOi2.symm D.l2TO
    refine wpAny_bind (wpAny_bind (wpAny_onRaise ?_))
    show wpAny _ _ (Builtin.SmallTypes.nextOf (.ref i2) >>= fun _ => _) _ _ { s with heap := hc }
    refine wpAny_bind (d2.stop (s := { s with heap := hc }) hh p2c hy fun hd e sd st => ?_)
    exact out (sd _ _ D.i2z.symm (sc.extBut _ _ D.TOz.symm (sb.extBut _ _ D.i1z.symm za))) st (fun c o n1 n2 n3 n4 u => sd _ _ n4 (sc.extBut _ _ n2 (sb.extBut _ _ n3 (sa.extBut _ _ n1 u)))) (fun _ _ => trivial) fun h' kp st' => q h' e kp st'
theorem pyNext_zipD_item {Q : Option Value → Shared → Prop} (d1 : Dr prog w i1 l1 xs P1) (d2 : Dr prog w i2 l2 ys P2) (D : ZipApart z TI TO i1 i2 l1 l2) (g : Zst s.heap z TI TO i1 i2 a b .none) (p1 : P1 s.heap k1) (p2 : P2 s.heap k2) (hx : xs[k1]? = some x) (hy : ys[k2]? = some y)
    (q : ∀ h', Zst h' z TI TO i1 i2 x y (rawInt s.heap.objs.size) → P1 h' (k1 + 1) → P2 h' (k2 + 1) → IsPair h' s.heap.objs.size x y → (∀ c o, c ≠ z → c ≠ TO → c ≠ i1 → c ≠ i2 → s.heap.get? c = some o → h'.get? c = some o) → Q (some (.ref s.heap.objs.size)) { s with heap := h' })
    (hl1 : l1 < s.heap.objs.size) (hl2 : l2 < s.heap.objs.size) (hi1 : i1 < s.heap.objs.size) (hi2 : i2 < s.heap.objs.size) : wpAny (model prog w) A (pyNext (.ref z)) Q E s := by
  have ty : s.TypeIs (.ref z) "zip" := ⟨_, g.z, rfl⟩
  unfold pyNext
  refine wpAny_bind (wpAny_attempt (wpAny_callSpecial?_slot (name := Str.ofString "__next__") ty PySem.F.slot_zip_next (wpAny_call_entry PySem.F.slot_zip_next ty PySem.F.entry_zip_next ?_ (PySem.F.args_zip_next_1 _))))
  exact zipD_item d1 d2 D g p1 p2 hx hy (fun h' a1 a2 a3 a4 a5 => wpAny_pure (q h' a1 a2 a3 a4 a5)) hl1 hl2 hi1 hi2
theorem pyNext_zipD_stop {Q : Option Value → Shared → Prop} (hh : A.handled = none) (d1 : Dr prog w i1 l1 xs P1) (d2 : Dr prog w i2 l2 ys P2) (D : ZipApart z TI TO i1 i2 l1 l2) (g : Zst s.heap z TI TO i1 i2 a b .none) (p1 : P1 s.heap k1) (p2 : P2 s.heap k2) (hend : xs[k1]? = none ∨ ys[k2]? = none)
    (q : ∀ h', (∀ c o, c ≠ z → c ≠ TO → c ≠ i1 → c ≠ i2 → s.heap.get? c = some o → h'.get? c = some o) → Q none { s with heap := h' }) : wpAny (model prog w) A (pyNext (.ref z)) Q E s := by
  have ty : s.TypeIs (.ref z) "zip" := ⟨_, g.z, rfl⟩
  unfold pyNext
  refine wpAny_bind (wpAny_attempt (wpAny_callSpecial?_slot (name := Str.ofString "__next__") ty PySem.F.slot_zip_next (wpAny_call_entry PySem.F.slot_zip_next ty PySem.F.entry_zip_next (zipD_stop hh d1 d2 D g p1 p2 hend fun h' e kp ⟨o, ho, hc⟩ => ?_) (PySem.F.args_zip_next_1 _))))
  exact wpAny_bind (wpAny_isInstance (T := "StopIteration") (b := true) ⟨o, ho, hc⟩ isSubtype_stop (wpAny_pure (q _ kp)))
end
/-! ### zip of a tuple and a list, made -/
abbrev zH1 (h : Heap) (l : Addr) : Heap := h.push { cls := .type "tuple_iterator", data := .fields #[.ref l, .int 0 0] }
abbrev zH2 (h : Heap) (l m : Addr) : Heap := (zH1 h l).push { cls := .type "list_iterator", data := .fields #[.ref m, .int 0 0] }
abbrev zH3 (h : Heap) (l m : Addr) : Heap := (zH2 h l m).push { cls := .type "tuple", data := .seq #[.ref h.objs.size, .ref (zH1 h l).objs.size] }
abbrev zH4 (h : Heap) (l m : Addr) : Heap := (zH3 h l m).push { cls := .type "tuple", data := .seq #[.none, .none] }
abbrev zH5 (h : Heap) (l m : Addr) : Heap := (zH4 h l m).push { cls := .type "zip", data := .fields #[.none, .bool false, .bool false, .ref (zH2 h l m).objs.size, .ref (zH3 h l m).objs.size] }
theorem meets_zipTL (l m : Addr) (xs ys : Array Value) :
    Meets (Builtin.«zip.__new__» ⟨[.type "zip", .ref l, .ref m], []⟩) (fun _ R s => s.heap.IsTuple l xs ∧ s.heap.IsList m ys ∧ R (.ok (.ret (.ref (zH4 s.heap l m).objs.size))) { s with heap := zH5 s.heap l m }) :=
  .of_wp fun prog w A R s h => by
    obtain ⟨hp, gs, dr, tk, os⟩ := s
    obtain ⟨t1, t2, h⟩ := h
    have sz := sub_zip
    have t1' : Heap.IsTuple (Shared.heap ⟨hp, gs, dr, tk, os⟩) l xs := t1
    have t2' : Heap.IsList (Shared.heap ⟨hp.push { cls := .type "tuple_iterator", data := .fields #[.ref l, .int 0 0] }, gs, dr, tk, os⟩) m ys := Heap.IsList.push t2 _
    wp_walk using wpAny_pyIter_tuple t1', wpAny_pyIter_list t2'
    exact ⟨_, rfl, h⟩
theorem call_zipTL {prog : Program} {w : World} {A : Around} {E : Value → Shared → Prop} {s : Shared} {l m : Addr} {xs ys : Array Value} {Q : Value → Shared → Prop} (t1 : s.heap.IsTuple l xs) (t2 : s.heap.IsList m ys)
    (q : ∀ h', Zst h' (s.heap.objs.size + 4) (s.heap.objs.size + 2) (s.heap.objs.size + 3) s.heap.objs.size (s.heap.objs.size + 1) .none .none .none → h'.IsTupleIter s.heap.objs.size l 0 → h'.IsListIter (s.heap.objs.size + 1) m 0 →
      (∀ c o, s.heap.get? c = some o → h'.get? c = some o) → Q (.ref (s.heap.objs.size + 4)) { s with heap := h' }) : wpAny (model prog w) A (call (.type "zip") [.ref l, .ref m]) Q E s := by
  refine callType_new PySem.F.called_zip (by decide) (PySem.F.typeCall_zip_2 _ _) (PySem.F.newCall_zip_2 _ _) (fun obj => PySem.F.args_object_init_3 obj _ _) PySem.F.entry_zip_new (meets_zipTL l m xs ys) ⟨t1, t2, ?_⟩
  have s1 : (zH1 s.heap l).objs.size = s.heap.objs.size + 1 := Heap.size_push ..
  have s2 : (zH2 s.heap l m).objs.size = s.heap.objs.size + 2 := by rw [Heap.size_push, s1]
  have s3 : (zH3 s.heap l m).objs.size = s.heap.objs.size + 3 := by rw [Heap.size_push, s2]
  have s4 : (zH4 s.heap l m).objs.size = s.heap.objs.size + 4 := by rw [Heap.size_push, s3]
  have up : ∀ {c o}, (zH4 s.heap l m).get? c = some o → (zH5 s.heap l m).get? c = some o := fun e => Heap.get?_push_of_some _ e
  have a5 : (zH5 s.heap l m).get? (zH4 s.heap l m).objs.size = some _ := Heap.get?_push_size _ rfl
  have a4 : (zH5 s.heap l m).get? (zH3 s.heap l m).objs.size = some _ := up (Heap.get?_push_size _ rfl)
  have a3 : (zH5 s.heap l m).get? (zH2 s.heap l m).objs.size = some _ := up (Heap.get?_push_of_some _ (Heap.get?_push_size _ rfl))
  have a2 : (zH5 s.heap l m).get? (zH1 s.heap l).objs.size = some _ := up (Heap.get?_push_of_some _ (Heap.get?_push_of_some _ (Heap.get?_push_size _ rfl)))
  have a1 : (zH5 s.heap l m).get? s.heap.objs.size = some _ := up (Heap.get?_push_of_some _ (Heap.get?_push_of_some _ (Heap.get?_push_of_some _ (Heap.get?_push_size _ rfl))))
  show _ ∧ _
  rw [s2, s3, s4] at a5
  rw [s3] at a4
  rw [s1, s2] at a3
  rw [s1] at a2
  rw [s4]
  refine ⟨⟨_, a5, rfl⟩, q _ ⟨a5, a3, a4⟩ ⟨_, a1, rfl, rfl⟩ ⟨_, a2, rfl, rfl⟩ fun c o e => up (Heap.get?_push_of_some _ (Heap.get?_push_of_some _ (Heap.get?_push_of_some _ (Heap.get?_push_of_some _ e))))⟩
/-! ### the walk over such a zip -/
/-- the tuple at a and the list at b as they stand at each turn -/
def ItzM (K : PySem.W.Frag) (a b : Addr) : It :=
  ⟨fun i H => ∃ (xs ys : List V) (x y : V), (SqT K H a xs ∧ SqL K H b ys) ∧ xs[i]? = some x ∧ ys[i]? = some y,
   fun i H v H' => ∃ t x y, (v = .ref t ∧ H t = none ∧ H' = upd H t (.tup [x, y])) ∧ (∀ xs, SqT K H a xs → xs[i]? = some x) ∧ ∀ ys, SqL K H b ys → ys[i]? = some y,
   fun i H => ∃ xs ys : List V, (SqT K H a xs ∧ SqL K H b ys) ∧ (xs.length ≤ i ∨ ys.length ≤ i)⟩
theorem turn_zipM {P : Program} {w : World} {K : PySem.W.Frag} {elts : List Expr} {kk : Nat} {tpos : Pos} {a b z TI TO i1 i2 : Addr} (D : ZipApart z TI TO i1 i2 a b) :
    Turn P w K (.Tuple elts kk tpos) (ItzM K a b) [z, TI, TO, i1, i2] z (fun i h => (∃ x y, Zst h z TI TO i1 i2 x y .none) ∧ h.IsTupleIter i1 a i ∧ h.IsListIter i2 b i) := by
  have five : ∀ {c : Addr}, c ∈ [z, TI, TO, i1, i2] → c = z ∨ c = TI ∨ c = TO ∨ c = i1 ∨ c = i2 := fun h => by simpa using h
  have off : ∀ {c : Addr}, c ∉ [z, TI, TO, i1, i2] → c ≠ z ∧ c ≠ TI ∧ c ≠ TO ∧ c ≠ i1 ∧ c ≠ i2 := fun h => by simpa using h
  refine ⟨by simp, fun i h st c hc => ?_, fun i h h' st k => ?_, ?_, ?_, fun A i s Q E st h => ?_⟩
  · obtain ⟨⟨x, y, gz, gi, go⟩, ⟨o1, e1, _, d1⟩, o2, e2, _, d2⟩ := st
    rcases five hc with q | q | q | q | q <;> rw [q]
    · exact ⟨_, gz, fun v u => nomatch u⟩
    · exact ⟨_, gi, fun v u => nomatch u⟩
    · exact ⟨_, go, fun v u => nomatch u⟩
    · exact ⟨o1, e1, fun v u => by rw [d1] at u; cases u⟩
    · exact ⟨o2, e2, fun v u => by rw [d2] at u; cases u⟩
  · obtain ⟨⟨x, y, gz, gi, go⟩, n1, n2⟩ := st
    exact ⟨⟨x, y, k z (by simp) _ gz, k TI (by simp) _ gi, k TO (by simp) _ go⟩, n1.at fun o u => k i1 (by simp) o u, n2.at fun o u => k i2 (by simp) o u⟩
  · intro X hP hw hK hc i pins s σ H E I hf st hg
    subst hP hw hK
    obtain ⟨⟨x0, y0, g⟩, n1, n2⟩ := st
    obtain ⟨xs, ys, x, y, ⟨qx, qy⟩, hx, hy⟩ := hg
    obtain ⟨its, rv, pl, _⟩ := I.tuple qx
    obtain ⟨jts, rw', pr, _⟩ := I.list qy
    obtain ⟨u, hu, ru⟩ := rv.get hx
    obtain ⟨v, hv, rv2⟩ := rw'.get hy
    have zl : z < s.heap.objs.size := Heap.lt_size g.z
    have b1 : i1 < s.heap.objs.size := by obtain ⟨_, e, _⟩ := n1; exact Heap.lt_size e
    have b2 : i2 < s.heap.objs.size := by obtain ⟨_, e, _⟩ := n2; exact Heap.lt_size e
    have b3 : a < s.heap.objs.size := by obtain ⟨_, e, _⟩ := pl; exact Heap.lt_size e
    refine pyNext_zipD_item (dr_tup D.l1i1) (dr_lst D.l2i2) D g ⟨n1, pl⟩ ⟨n2, pr.isList⟩ (x := u) (y := v) (by simpa using hu) (by simpa using hv) (fun h' g' m1 m2 ht kp => ?_) b3 pr.lt b1 b2
    refine ⟨_, rfl, wpAny_letOwnedTupleGo_zip (s := { s with heap := h' }) g'.z fun h'' z'' sb => ?_⟩
    have ht2 : h''.get? s.heap.objs.size = some { cls := .type "tuple", data := .seq #[u, v] } := (sb.2 _ (Nat.ne_of_gt zl)).trans ht
    have fresh : ObjOk X.prog X.w (upd H s.heap.objs.size (.tup [x, y])) h'' s.heap.objs.size (.tup [x, y]) := ⟨by show 2 ≤ sizeLine; decide, [u, v], .cons ru (.cons rv2 .nil), ⟨_, ht2, rfl, _, rfl⟩⟩
    have I1 : Inv X pins σ (upd H s.heap.objs.size (.tup [x, y])) { s with heap := h'' } :=
      I.turnedNew (t' := s.toks) (ch := [z, TI, TO, i1, i2]) (fun c o hb e => (sb.2 c (off hb).1).trans (kp c o (off hb).1 (off hb).2.2.1 (off hb).2.2.2.1 (off hb).2.2.2.2 e)) hf (Nat.le_refl _) fresh
    refine ⟨.ref s.heap.objs.size, _, I1, rfl, ⟨_, x, y, ⟨rfl, I.hok.fresh (Nat.le_refl _), rfl⟩, fun l hl => by rw [I.tuple_inj hl qx]; exact hx, fun l hl => by rw [I.list_inj hl qy]; exact hy⟩, ⟨⟨u, v, z'', ?_, ?_⟩, ?_, ?_⟩, fun c hcm => ?_⟩
    · exact (sb.2 _ D.TIz).trans g'.ti
    · exact (sb.2 _ D.TOz).trans g'.to
    · exact m1.1.at fun o e => (sb.2 _ D.i1z).trans e
    · exact m2.1.at fun o e => (sb.2 _ D.i2z).trans e
    · have hlt : c < s.heap.objs.size := by
        rcases five hcm with q | q | q | q | q <;> rw [q]
        · exact zl
        · exact Heap.lt_size g.ti
        · exact Heap.lt_size g.to
        · exact b1
        · exact b2
      rw [upd_ne (Nat.ne_of_lt hlt)]
      exact (hf c hcm).1
  · intro X hP hw hK hc i pins s σ H E I hf st hg
    subst hP hw hK
    obtain ⟨⟨x0, y0, g⟩, n1, n2⟩ := st
    obtain ⟨xs, ys, ⟨qx, qy⟩, hend⟩ := hg
    obtain ⟨its, rv, pl, _⟩ := I.tuple qx
    obtain ⟨jts, rw', pr, _⟩ := I.list qy
    have e1 := rv.length
    have e2 := rw'.length
    have he : its.toArray[i]? = none ∨ jts.toArray[i]? = none := hend.imp (fun q => by simp; omega) fun q => by simp; omega
    exact pyNext_zipD_stop (I.ok.hd hc) (dr_tup D.l1i1) (dr_lst D.l2i2) D g ⟨n1, pl⟩ ⟨n2, pr.isList⟩ he fun h' kp => ⟨rfl, I.turnedL (t' := s.toks) (ch := [z, TI, TO, i1, i2]) (fun c o hb e => kp c o (off hb).1 (off hb).2.2.1 (off hb).2.2.2.1 (off hb).2.2.2.2 e) hf⟩
  · obtain ⟨⟨x, y, g⟩, _⟩ := st
    exact wpAny_pyIter_zip g.z h
/-- zip(t, x): t a tuple, x a list or a tuple -/
def iZipM (K : PySem.W.Frag) (ta : TA) : TI := fun σ H R => ta σ H fun vs H1 => ∃ a b xs ys, vs = [.ref a, .ref b] ∧ SqT K H1 a xs ∧ ((SqL K H1 b ys ∧ R (ItzM K a b) H1) ∨ (SqT K H1 b ys ∧ R (RZ.ItzT K a b) H1))
theorem pi_zipM {X : Cx} {e e2 : Expr} {ta : TA} {p pos tpos : Pos} {elts : List Expr} {kk : Nat} (hg : Gl X "zip") (hm : X.mg "zip" = none) (ha : PA X [e, e2] ta)
    (hs : starEach [e, e2] X.env = (false, eval e X.env) :: starEach [e2] X.env := by rfl) (hpl : (backTo pos (starEach [e2] X.env)).any (·.1) = false := by rfl) :
    PI X (.Tuple elts kk tpos) (.Call (.Name "zip" p) [e, e2] [] pos) (iZipM X.K ta) := by
  refine ⟨fun pins s σ H R I h => ?_⟩
  refine Call_ (ld_blt I hg hm PyProof.Rows.boot_zip (PyProof.Rows.callWith_type1 (thn (ha.run pos pins s σ H _ I h) fun us s1 ⟨vs, H1, I1, r1, a, b, xs, ys, ex, qx, q⟩ => ?_) hs hpl))
  subst ex
  obtain ⟨u, v, rfl, ru, rv⟩ := vals2 r1
  cases ru
  cases rv
  have up : ∀ c, c ∈ [s1.heap.objs.size + 4, s1.heap.objs.size + 2, s1.heap.objs.size + 3, s1.heap.objs.size, s1.heap.objs.size + 1] → FpOk X pins H1 c := fun c hc => by
    have hle : s1.heap.objs.size ≤ c := by
      simp only [List.mem_cons, List.not_mem_nil, or_false] at hc
      omega
    exact I1.fpOk hle (I1.hok.fresh hle)
  obtain ⟨its, _, p1, _⟩ := I1.tuple qx
  have b1 : a < s1.heap.objs.size := by obtain ⟨_, e, _⟩ := p1; exact Heap.lt_size e
  rcases q with ⟨qy, q⟩ | ⟨qy, q⟩
  · obtain ⟨jts, _, p2, _⟩ := I1.list qy
    refine call_zipTL (show s1.heap.IsTuple a its.toArray from p1) p2.isList fun h' g n1 n2 kp => wpAny_pyIter_zip g.z ?_
    exact ⟨s1.heap.objs.size + 4, [s1.heap.objs.size + 4, s1.heap.objs.size + 2, s1.heap.objs.size + 3, s1.heap.objs.size, s1.heap.objs.size + 1], _, _, H1, rfl, I1.kept (t' := s1.toks) (h' := h') kp, turn_zipM (PySem.W.ktu_apart s1.heap.objs.size a b b1 p2.lt), ⟨⟨_, _, g⟩, n1, n2⟩, up, q⟩
  · obtain ⟨jts, _, p2, _⟩ := I1.tuple qy
    have b2 : b < s1.heap.objs.size := by obtain ⟨_, e, _⟩ := p2; exact Heap.lt_size e
    refine RZ.call_zipT (show s1.heap.IsTuple a its.toArray from p1) (show s1.heap.IsTuple b jts.toArray from p2) fun h' gz gi go n1 n2 _ kp => wpAny_pyIter_zip gz ?_
    exact ⟨s1.heap.objs.size + 4, [s1.heap.objs.size + 4, s1.heap.objs.size + 2, s1.heap.objs.size + 3, s1.heap.objs.size, s1.heap.objs.size + 1], _, _, H1, rfl, I1.kept (t' := s1.toks) (h' := h') kp, RZ.turn_zipT (PySem.W.ktu_apart s1.heap.objs.size a b b1 b2), ⟨gz, gi, ⟨_, _, go⟩, n1, n2⟩, up, q⟩
theorem for_zipM {K : PySem.W.Frag} {a b : Addr} {xs ys : List V} {g : TG} {tb : TS} {D : Ends} {σ : L2.St} {H : Hp} (hlen : xs.length = ys.length) (Pv : Nat → L2.St → Hp → Prop) (h0 : Pv 0 σ H) (hx : ∀ i σ H, Pv i σ H → SqT K H a xs) (hy : (∀ i σ H, Pv i σ H → SqL K H b ys) ∨ (∀ i σ H, Pv i σ H → SqT K H b ys))
    (hs : ∀ (i : Nat) (x y : V) (t : Addr) (σ : L2.St) (H : Hp), xs[i]? = some x → ys[i]? = some y → Pv i σ H → H t = none → g (.ref t) σ (upd H t (.tup [x, y])) fun σ2 H2 => tb { D with nx := Pv (i + 1), ct := Pv (i + 1), bk := D.nx } σ2 H2) (hd : ∀ σ H, Pv xs.length σ H → D.nx σ H) :
    (SqL K H b ys ∧ ∃ W : Nat → Nat → L2.St → Hp → Prop, (∃ m, W 0 m σ H) ∧ ∀ i m σ H, W i m σ H → ((ItzM K a b).stop i H ∧ D.nx σ H) ∨ ((ItzM K a b).go i H ∧ ∃ N : L2.St → Hp → Prop, (∀ σ' H', N σ' H' → ∃ m', m' < m ∧ W (i + 1) m' σ' H') ∧ ∀ v H', (ItzM K a b).yld i H v H' → g v σ H' fun σ2 H2 => tb { D with nx := N, ct := N, bk := D.nx } σ2 H2)) ∨
    (SqT K H b ys ∧ ∃ W : Nat → Nat → L2.St → Hp → Prop, (∃ m, W 0 m σ H) ∧ ∀ i m σ H, W i m σ H → ((RZ.ItzT K a b).stop i H ∧ D.nx σ H) ∨ ((RZ.ItzT K a b).go i H ∧ ∃ N : L2.St → Hp → Prop, (∀ σ' H', N σ' H' → ∃ m', m' < m ∧ W (i + 1) m' σ' H') ∧ ∀ v H', (RZ.ItzT K a b).yld i H v H' → g v σ H' fun σ2 H2 => tb { D with nx := N, ct := N, bk := D.nx } σ2 H2)) := by
  rcases hy with hy | hy
  · refine .inl ⟨hy 0 _ _ h0, fun i m σ H => m = xs.length - i ∧ i ≤ xs.length ∧ Pv i σ H, ⟨xs.length, by simp, Nat.zero_le _, h0⟩, ?_⟩
    rintro i m σ H ⟨rfl, hi, p⟩
    have qx := hx i σ H p
    have qy := hy i σ H p
    by_cases hlt : i < xs.length
    · have e1 : xs[i]? = some xs[i] := List.getElem?_eq_getElem hlt
      have e2 : ys[i]? = some ys[i] := List.getElem?_eq_getElem (by omega)
      refine .inr ⟨⟨xs, ys, _, _, ⟨qx, qy⟩, e1, e2⟩, Pv (i + 1), fun σ' H' p' => ⟨xs.length - (i + 1), by omega, rfl, hlt, p'⟩, fun v H' y => ?_⟩
      obtain ⟨t, x', y', ⟨rfl, ht, rfl⟩, f1, f2⟩ := y
      exact hs i x' y' t σ H (f1 xs qx) (f2 ys qy) p ht
    · have e : i = xs.length := by omega
      subst e
      exact .inl ⟨⟨xs, ys, ⟨qx, qy⟩, .inl (Nat.le_refl _)⟩, hd σ H p⟩
  · exact .inr ⟨hy 0 _ _ h0, RZ.for_zipT hlen Pv h0 (fun i σ H p => ⟨hx i σ H p, hy i σ H p⟩) hs hd⟩
end Ru

set_option Elab.async false
set_option linter.all false
set_option maxRecDepth 100000
set_option maxHeartbeats 2000000
/-! more rules: an index in a comprehension, isinstance of two of one's own classes, dicts by names, three dicts -/
namespace Ru
open PySem PySem.Spec PyProof.Rows L2
theorem ix_listK {X : Cx} (K : PySem.W.Frag) (h : X.K = K) : IxR X (rIxL K) := h ▸ ix_list
theorem ix_tupK {X : Cx} (K : PySem.W.Frag) (h : X.K = K) : IxR X (rIxT K) := h ▸ ix_tup
theorem nodup_map_range {α : Type} {f : Nat → α} : ∀ {n : Nat}, (∀ i j, i < n → j < n → f i = f j → i = j) → ((List.range n).map f).Nodup
  | 0, _ => by simp
  | n + 1, h => by
    rw [List.range_succ, List.map_append, List.nodup_append]
    refine ⟨nodup_map_range fun i j hi hj e => h i j (by omega) (by omega) e, by simp, fun a ha b hb e => ?_⟩
    obtain ⟨i, hi, rfl⟩ := List.mem_map.mp ha
    rw [List.map_singleton, List.mem_singleton] at hb
    subst hb
    have hi := List.mem_range.mp hi
    have := h i n (by omega) (by omega) e
    omega
/-! ## isinstance(x, (C, D)), both one's own -/
def rIsO2 (K : PySem.W.Frag) (D1 D2 : Addr) (T : Addr → Bool → Prop) : List V → Hp → VK → Prop := fun xs H Q => ∃ a tp C dx fs b, xs = [.ref a, .ref tp] ∧ H tp = some (.tup [.ref D1, .ref D2]) ∧ H a = some (.ins C dx fs) ∧ T C b ∧ Q (.bl b) H
theorem call_isO2 {X : Cx} {D1 D2 : Addr} {T1 T2 : Addr → Bool → Prop} (h1 : IsT X.K D1 T1) (h2 : IsT X.K D2 T2) : CallR X (.builtin "isinstance") (rIsO2 X.K D1 D2 fun C b => ∃ b1 b2, T1 C b1 ∧ T2 C b2 ∧ b = (b1 || b2)) := by
  intro pins s σ H xs us Q I r hq
  obtain ⟨a, tp, C, dx, fs, b, rfl, ht, ha, ⟨b1, b2, t1, t2, rfl⟩, q⟩ := hq
  obtain ⟨⟨mg, x, c⟩, e1⟩ := h1 C b1 t1
  obtain ⟨_, e2⟩ := h2 C b2 t2
  refine call_isiT pins s σ H _ us Q I r ⟨.ref a, tp, _, _, _, b1 || b2, rfl, ht, .cons (.own D1) (.cons (.own D2) .nil), .base (.ins ha c.cl c.ha c.hn c.htk c.hm), ?_, q⟩
  refine kitAny_cons e1 (fun h => ?_) (fun h => by rw [h]; rfl)
  refine kitAny_cons e2 (fun h' => ?_) (fun h' => by rw [h']; simp)
  rw [h, h']
  rfl
/-! ## dicts of names -/
def keysL {α : Type} (l : List (Str × α)) : List Str := l.map (·.1)
def putL {α : Type} (l : List (Str × α)) (n : Str) (v : α) : List (Str × α) := if n ∈ keysL l then l.map fun p => if p.1 = n then (n, v) else p else l ++ [(n, v)]
def getL {α : Type} (l : List (Str × α)) (n : Str) : Option α := (l.find? fun p => decide (p.1 = n)).map (·.2)
def dL {α : Type} (f : α → V) (l : List (Str × α)) : List (Key × V) := l.map fun p => (.inr p.1, f p.2)
section
variable {α : Type} {f : α → V} {l : List (Str × α)} {n m : Str} {v : α}
theorem dL_any : ((dL f l).any fun kv => decide (kv.1 = (Sum.inr n : Key))) = decide (n ∈ keysL l) := by
  rw [Bool.eq_iff_iff, List.any_eq_true, decide_eq_true_eq]
  unfold dL keysL
  constructor
  · rintro ⟨x, hx, e⟩
    obtain ⟨p, hp, rfl⟩ := List.mem_map.mp hx
    have e : p.1 = n := by simpa using e
    exact List.mem_map.mpr ⟨p, hp, e⟩
  · intro h
    obtain ⟨p, hp, rfl⟩ := List.mem_map.mp h
    exact ⟨_, List.mem_map.mpr ⟨p, hp, rfl⟩, by simp⟩
theorem dL_put : putK (dL f l) (Sum.inr n : Key) (f v) = dL f (putL l n v) := by
  unfold putK putL
  rw [dL_any]
  by_cases h : n ∈ keysL l
  · rw [decide_eq_true h, if_pos rfl, if_pos h]
    unfold dL
    rw [List.map_map, List.map_map]
    apply List.map_congr_left
    intro x _
    simp only [Function.comp]
    by_cases e : x.1 = n
    · rw [if_pos e, if_pos (by rw [e]), e]
    · rw [if_neg e, if_neg (fun q => e (by injection q))]
  · rw [decide_eq_false h, if_neg (by decide), if_neg h]
    simp [dL]
theorem dL_get : ∀ {l : List (Str × α)}, valV (dL f l) (Sum.inr n : Key) = (getL l n).map f
  | [] => rfl
  | (x, a) :: l => by
    by_cases e : x = n
    · subst e
      have h2 : valV (dL f ((x, a) :: l)) (Sum.inr x : Key) = some (f a) := valV_pos rfl
      rw [h2]
      simp [getL]
    · have h2 : valV (dL f ((x, a) :: l)) (Sum.inr n : Key) = valV (dL f l) (Sum.inr n : Key) := valV_neg fun q => e (by injection q)
      rw [h2, dL_get]
      simp [getL, e]
theorem dL_len : (dL f l).length = l.length := by simp [dL]
theorem getL_mem : (∃ v, getL l n = some v) ↔ n ∈ keysL l := by
  unfold getL keysL
  constructor
  · rintro ⟨v, h⟩
    obtain ⟨p, hp, rfl⟩ := Option.map_eq_some_iff.mp h
    have h1 := List.mem_of_find?_eq_some hp
    have h2 := List.find?_some hp
    exact List.mem_map.mpr ⟨p, h1, by simpa using h2⟩
  · intro h
    obtain ⟨p, hp, rfl⟩ := List.mem_map.mp h
    have : (l.find? fun q => decide (q.1 = p.1)).isSome := by
      rw [List.find?_isSome]
      exact ⟨p, hp, by simp⟩
    obtain ⟨q, hq⟩ := Option.isSome_iff_exists.mp this
    exact ⟨q.2, by rw [hq]; rfl⟩
theorem getL_none : getL l n = none ↔ n ∉ keysL l := by
  rw [← getL_mem]
  cases getL l n <;> simp
theorem keys_put (h : n ∈ keysL l) : keysL (putL l n v) = keysL l := by
  unfold putL
  rw [if_pos h]
  unfold keysL
  rw [List.map_map]
  apply List.map_congr_left
  intro x _
  simp only [Function.comp]
  split
  · rename_i e
    exact e.symm
  · rfl
theorem keys_new (h : n ∉ keysL l) : putL l n v = l ++ [(n, v)] := by
  unfold putL
  rw [if_neg h]
theorem keys_put_new (h : n ∉ keysL l) : keysL (putL l n v) = keysL l ++ [n] := by
  rw [keys_new h]
  simp [keysL]
theorem put_le : (putL l n v).length ≤ l.length + 1 := by
  unfold putL
  split <;> simp
theorem len_keys : (keysL l).length = l.length := by simp [keysL]
theorem getL_put : getL (putL l n v) m = if m = n then some v else getL l m := by
  have e := dL_get (f := fun a : α => V.non) (l := putL l n v) (n := m)
  clear e
  unfold putL
  split
  · rename_i h
    by_cases e : m = n
    · subst e
      rw [if_pos rfl]
      obtain ⟨p, hp, e1⟩ := List.mem_map.mp h
      unfold getL
      have : ((l.map fun p => if p.1 = m then (m, v) else p).find? fun p => decide (p.1 = m)) = some (m, v) := by
        clear h
        induction l with
        | nil => cases hp
        | cons x l ih =>
          rw [List.map_cons]
          by_cases hx : x.1 = m
          · rw [if_pos hx]
            simp
          · rw [if_neg hx, List.find?_cons_of_neg (by simpa using hx)]
            rcases List.mem_cons.mp hp with rfl | hp
            · exact absurd e1 hx
            · exact ih hp
      rw [this]
      rfl
    · rw [if_neg e]
      unfold getL
      clear h
      induction l with
      | nil => rfl
      | cons x l ih =>
        rw [List.map_cons]
        by_cases hx : x.1 = n
        · rw [if_pos hx, List.find?_cons_of_neg (by simpa using fun q => e q.symm), ih, List.find?_cons_of_neg (by rw [hx]; simpa using fun q => e q.symm)]
        · rw [if_neg hx]
          by_cases hm : x.1 = m
          · rw [List.find?_cons_of_pos (by simpa using hm), List.find?_cons_of_pos (by simpa using hm)]
          · rw [List.find?_cons_of_neg (by simpa using hm), List.find?_cons_of_neg (by simpa using hm), ih]
  · rename_i h
    unfold getL
    rw [List.find?_append]
    by_cases e : m = n
    · subst e
      rw [if_pos rfl]
      have : (l.find? fun p => decide (p.1 = m)) = none := by
        rw [List.find?_eq_none]
        intro p hp q
        exact h (List.mem_map.mpr ⟨p, hp, by simpa using q⟩)
      rw [this]
      simp
    · rw [if_neg e]
      have : ([(n, v)].find? fun p => decide (p.1 = m)) = none := by
        simp
        exact fun q => e q.symm
      rw [this]
      cases l.find? fun p => decide (p.1 = m) <;> rfl
end
/-! ## for over a list or a tuple, whichever it is -/
def iAny (K : PySem.W.Frag) (te : TE) : TI := fun σ H R => te σ H fun x H1 => ∃ a xs, x = .ref a ∧ ((SqL K H1 a xs ∧ R (Itl K a) H1) ∨ (SqT K H1 a xs ∧ R (Itt K a) H1))
theorem pi_any {X : Cx} {tg l : Expr} {te : TE} (hl : PE X l te) : PI X tg l (iAny X.K te) := by
  refine ⟨fun pins s σ H R I h => ?_⟩
  refine thn (hl.run pins s σ H _ I h) fun v s1 ⟨x, H1, I1, r1, a, xs, ex, q⟩ => ?_
  subst ex
  cases r1
  have fp : ∀ b, b ∈ [s1.heap.objs.size] → FpOk X pins H1 b := fun b hb => by
    rw [List.mem_singleton.mp hb]
    exact I1.fpOk (Nat.le_refl _) (I1.hok.fresh (Nat.le_refl _))
  rcases q with ⟨hq, q⟩ | ⟨hq, q⟩
  · obtain ⟨its, _, pl, _⟩ := I1.list hq
    exact wpAny_pyIter_list pl.isList ⟨_, [s1.heap.objs.size], _, _, H1, rfl, I1.kept (t' := s1.toks) fun b o e => Heap.get?_push_of_some _ e, turn_list a _, ⟨_, Heap.get?_push_size _ rfl, rfl, rfl⟩, fp, q⟩
  · obtain ⟨its, _, pt, _⟩ := I1.tuple hq
    exact wpAny_pyIter_tuple (show s1.heap.IsTuple a its.toArray from pt) ⟨_, [s1.heap.objs.size], _, _, H1, rfl, I1.kept (t' := s1.toks) fun b o e => Heap.get?_push_of_some _ e, turn_tuple a _, ⟨_, Heap.get?_push_size _ rfl, rfl, rfl⟩, fp, q⟩
/-- a list or a tuple -/
def Sq (K : PySem.W.Frag) (H : Hp) (a : Addr) (xs : List V) : Prop := SqL K H a xs ∨ SqT K H a xs
/-- a loop over what is a list or a tuple -/
theorem for_any {K : PySem.W.Frag} {a : Addr} {xs : List V} {g : TG} {tb : TS} {D : Ends} {σ : L2.St} {H : Hp} (Pv : Nat → L2.St → Hp → Prop) (h0 : Pv 0 σ H) (hl : (∀ i σ H, i ≤ xs.length → Pv i σ H → SqL K H a xs) ∨ (∀ i σ H, i ≤ xs.length → Pv i σ H → SqT K H a xs))
    (hs : ∀ i x σ H, xs[i]? = some x → Pv i σ H → g x σ H fun σ2 H2 => tb { D with nx := Pv (i + 1), ct := Pv (i + 1), bk := D.nx } σ2 H2) (hd : ∀ σ H, Pv xs.length σ H → D.nx σ H) :
    (SqL K H a xs ∧ ∃ W : Nat → Nat → L2.St → Hp → Prop, (∃ m, W 0 m σ H) ∧ ∀ i m σ H, W i m σ H → ((Itl K a).stop i H ∧ D.nx σ H) ∨ ((Itl K a).go i H ∧ ∃ N : L2.St → Hp → Prop, (∀ σ' H', N σ' H' → ∃ m', m' < m ∧ W (i + 1) m' σ' H') ∧ ∀ x H', (Itl K a).yld i H x H' → g x σ H' fun σ2 H2 => tb { D with nx := N, ct := N, bk := D.nx } σ2 H2)) ∨
    (SqT K H a xs ∧ ∃ W : Nat → Nat → L2.St → Hp → Prop, (∃ m, W 0 m σ H) ∧ ∀ i m σ H, W i m σ H → ((Itt K a).stop i H ∧ D.nx σ H) ∨ ((Itt K a).go i H ∧ ∃ N : L2.St → Hp → Prop, (∀ σ' H', N σ' H' → ∃ m', m' < m ∧ W (i + 1) m' σ' H') ∧ ∀ x H', (Itt K a).yld i H x H' → g x σ H' fun σ2 H2 => tb { D with nx := N, ct := N, bk := D.nx } σ2 H2)) := by
  rcases hl with hl | hl
  · exact .inl ⟨hl 0 _ _ (Nat.zero_le _) h0, for_list Pv h0 hl hs hd⟩
  · exact .inr ⟨hl 0 _ _ (Nat.zero_le _) h0, for_tup Pv h0 hl hs hd⟩
end Ru

set_option Elab.async false
set_option linter.all false
set_option maxRecDepth 100000
set_option maxHeartbeats 2000000
/-! tuples of dicts held against each other -/
namespace PySem.SeqAt
open AutoSeq1 (wpAny_loadPart')
open MeetsSeq MeetsSeq2 MeetsSeq3 SeqRoads2
/-- two tuples whose items are the same, one by one: not unlike -/
theorem ne_same_tuples (P : Program) (W : World) (p q : Addr) (us ws : Array Value) (np nq : Nat) (dp dq : Option Addr) (sp sq : Array (Option Value)) :
    MeetsIn P W (Builtin.«tuple.__ne__» ⟨[.ref p, .ref q], []⟩)
      (fun A R s => s.heap.get? p = some ⟨.type "tuple", dp, .seq us np, sp⟩ ∧ s.heap.get? q = some ⟨.type "tuple", dq, .seq ws nq, sq⟩ ∧ us.size = ws.size ∧
        (∀ k (a : k < us.size) (b : k < ws.size), EqIn P W A.in1 s us[k] ws[k] true) ∧ R (.ok (.ret (.bool false))) s) :=
  .of_wp fun A R s z => by
    obtain ⟨hp, gs, dr, tk, os⟩ := s
    obtain ⟨zp, zq, zn, ze, zr⟩ := z
    have tt := AutoSeq1.sub_tuple_tuple
    have zl : (us.toList.zip ws.toList).length = us.size := by simp [zn]
    wp_walk using wpAny_loadPart' zp, wpAny_loadPart' zq, wpAny_forIn_list _ (fun left acc now => acc.1 = none ∧ now = ⟨hp, gs, dr, tk, os⟩ ∧ ∃ k, left = (us.toList.zip ws.toList).drop k) _
    case turn =>
      rintro ⟨u, v⟩ left acc now ⟨ea, rfl, k, el⟩
      by_cases hk : k < us.size
      · rw [List.drop_eq_getElem_cons (by rw [zl]; exact hk)] at el
        obtain ⟨e1, e2⟩ := List.cons.inj el
        rw [List.getElem_zip] at e1
        obtain ⟨rfl, rfl⟩ := Prod.mk.inj e1
        refine wpAny_bind ((ze k hk (zn ▸ hk)) _ _ ?_)
        wp_walk
        exact ⟨rfl, rfl, k + 1, e2⟩
      · rw [List.drop_of_length_le (by rw [zl]; omega)] at el
        cases el
    case fin =>
      rintro ⟨c1, c2⟩ now ⟨ec, rfl, k, _⟩
      simp only at ec
      subst ec
      wp_walk
      exact ⟨_, rfl, by simpa [Builtin.Tuple.tupleCompareSizes, zn] using zr⟩
    case h => exact ⟨rfl, rfl, 0, rfl⟩
end PySem.SeqAt
namespace Ru
open PySem PySem.Spec PyProof.Rows L2
/-- two tuples of dicts of the same pairs -/
def TwoTD (H : Hp) (a b : Addr) : Prop := a ≠ b ∧ ∃ (as bs : List Addr), H a = some (.tup (as.map V.ref)) ∧ H b = some (.tup (bs.map V.ref)) ∧ as.length = bs.length ∧
  ∀ (i : Nat) (p q : Addr), as[i]? = some p → bs[i]? = some q → p ≠ q ∧ ∃ ks ls, H p = some (.dK ks) ∧ H q = some (.dK ls) ∧ ks.length = ls.length ∧ ∀ r ∈ ks, valV ls r.1 = some r.2 ∧ flatB r.2 = true
def rEqTD : R2 := fun x y H Q => ∃ a b, x = .ref a ∧ y = .ref b ∧ TwoTD H a b ∧ Q (.bl true) H
def rNeTD : R2 := fun x y H Q => ∃ a b, x = .ref a ∧ y = .ref b ∧ TwoTD H a b ∧ Q (.bl false) H
theorem vals_refs_at {as : List Addr} {us : List Value} (r : Vals (as.map V.ref) us) : us = as.map Value.ref := by
  induction as generalizing us with
  | nil => cases r; rfl
  | cons a as ih =>
    rw [List.map_cons] at r
    cases r with
    | cons h t =>
      rw [ih t, List.map_cons]
      congr 1
section
variable {X : Cx} {pins : List (Addr × Obj)} {s : Shared} {σ : L2.St} {H : Hp} {A : Around}
theorem eqIn_td (hu : A.units < cLine) (I : Inv X pins σ H s) {p q : Addr} (ne : p ≠ q) {ks ls : List (Key × V)} (ep : H p = some (.dK ks)) (eq : H q = some (.dK ls)) (hlen : ks.length = ls.length) (hp : ∀ r ∈ ks, valV ls r.1 = some r.2 ∧ flatB r.2 = true) :
    SeqAt.EqIn X.prog X.w A s (.ref p) (.ref q) true := by
  refine SeqAt.EqIn.of_refs ne fun E Q hq => ?_
  obtain ⟨_, ya, va, ra, da⟩ := (show ObjOk X.prog X.w H s.heap p (.dK ks) from I.hok p _ ep)
  obtain ⟨_, yb, vb, rb, db⟩ := (show ObjOk X.prog X.w H s.heap q (.dK ls) from I.hok q _ eq)
  have hl : va.length = vb.length := by rw [← ra.length, ← rb.length]; exact hlen
  refine PySem.W.keq_eq (knd := mixKind X.prog X.w) (r := true) ya yb da db hu (fun _ => hits_all rb ra hp) ?_
  rw [hl]
  simpa using hq
theorem td_at (I : Inv X pins σ H s) {a b : Addr} (h : TwoTD H a b) : ∃ us ws : Array Value, s.heap.IsTuple a us ∧ s.heap.IsTuple b ws ∧ us.size = ws.size ∧ ∀ A : Around, A.units < cLine → ∀ k (h1 : k < us.size) (h2 : k < ws.size), SeqAt.EqIn X.prog X.w A s us[k] ws[k] true := by
  obtain ⟨ne, as, bs, ha, hb, hl, hd⟩ := h
  obtain ⟨z1, us, r1, t1⟩ := (show ObjOk X.prog X.w H s.heap a (.tup _) from I.hok a _ ha)
  obtain ⟨z2, ws, r2, t2⟩ := (show ObjOk X.prog X.w H s.heap b (.tup _) from I.hok b _ hb)
  have e1 := vals_refs_at r1
  have e2 := vals_refs_at r2
  subst e1 e2
  refine ⟨_, _, t1, t2, by simpa using hl, fun A hu k h1 h2 => ?_⟩
  have k1 : k < as.length := by simpa using h1
  have k2 : k < bs.length := by simpa using h2
  obtain ⟨n, ks, ls, q1, q2, q3, q4⟩ := hd k as[k] bs[k] (List.getElem?_eq_getElem k1) (List.getElem?_eq_getElem k2)
  have := eqIn_td hu I n q1 q2 q3 q4
  simpa using this
end
theorem op_eqTD {X : Cx} (hu : X.A.units + 1 < cLine) : OpR X (compareOp .Eq) rEqTD := by
  intro pins s σ H x y v u Q I rx ry h
  obtain ⟨a, b, rfl, rfl, t, q⟩ := h
  obtain rfl : v = Value.ref a := rx
  obtain rfl : u = Value.ref b := ry
  obtain ⟨us, ws, t1, t2, sz, eq⟩ := td_at I t
  have := SeqAt.rcIn_tuples (prog := X.prog) (w := X.w) (A := X.A) (s := s) (e := fun _ => true) (E := X.xe) (Q := fun v s' => ∃ x H', Inv X pins σ H' s' ∧ RelV x v ∧ Q x H') t1 t2 (by omega) (fun k h1 h2 => eq _ (by show X.A.units + 1 < cLine; exact hu) k h1 h2) ⟨.bl true, H, I, by
    have : ((List.range (min us.size ws.size)).all (fun _ => true) && us.size == ws.size) = true := by simp [sz]
    rw [this]
    rfl, q⟩
  exact this
theorem op_neTD {X : Cx} (hu : X.A.units + 1 < cLine) : OpR X (compareOp .NotEq) rNeTD := by
  intro pins s σ H x y v u Q I rx ry h
  obtain ⟨a, b, rfl, rfl, t, q⟩ := h
  obtain rfl : v = Value.ref a := rx
  obtain rfl : u = Value.ref b := ry
  obtain ⟨us, ws, t1, t2, sz, eq⟩ := td_at I t
  obtain ⟨⟨c1, d1, e1, s1⟩, o1, q1, n1, p1⟩ := id t1
  obtain ⟨⟨c2, d2, e2, s2⟩, o2, q2, n2, p2⟩ := id t2
  simp only at q1 p1 q2 p2
  subst q1 p1 q2 p2
  refine wpAny_richCompare_same_room (op := .NotEq) ⟨_, o1, rfl⟩ ⟨_, o2, rfl⟩ PySem.F.slot_tuple_ne (call_meetsIn PySem.F.slot_tuple_ne ⟨_, o1, rfl⟩ PySem.F.entry_tuple_ne (PySem.F.args_tuple_ne_2 _ _) (SeqAt.ne_same_tuples X.prog X.w a b us ws n1 n2 d1 d2 s1 s2)
    ⟨o1, o2, sz, fun k h1 h2 => eq _ (by show X.A.units + 1 < cLine; exact hu) k h1 h2, ?_⟩) (by omega)
  exact ⟨(fun x => nomatch x), .bl false, H, I, rfl, q⟩
end Ru

set_option Elab.async false
set_option linter.all false
set_option maxRecDepth 100000
set_option maxHeartbeats 2000000
/-! d.update(e) -/
namespace Ru
open PySem PySem.Spec PyProof.Rows L2
def rDUpd : V → List V → Hp → VK → Prop := fun x vs H Q => ∃ (a b : Addr) (kvs more : List (Key × V)), x = .ref a ∧ vs = [.ref b] ∧ H a = some (.dK kvs) ∧ H b = some (.dK more) ∧ a ≠ b ∧ kvs.length + more.length ≤ sizeLine ∧ Q .non (upd H a (.dK (mergeK kvs more)))
theorem mtd_update {X : Cx} : MtR X "dict.update" rDUpd := by
  intro pins s σ H x vs v us Q I rx rv h
  obtain ⟨a, b, kvs, more, rfl, rfl, ea, eb, n, hz, q⟩ := h
  obtain rfl : v = .ref a := rx
  obtain ⟨u, eu, ru⟩ := vals1 rv
  subst eu
  obtain rfl : u = .ref b := ru
  obtain ⟨z, hd, vs0, rel, dd⟩ := dk_of I.hok ea
  obtain ⟨z2, hd2, vs1, rel2, dd2⟩ := dk_of I.hok eb
  refine call_meetsIn PySem.F.slot_dict_update dd.typeIs PySem.F.entry_dict_update (PySem.F.args_dict_update_2 _ _) (meets_dict_update (mixKind X.prog X.w) a b n hd2) ⟨vs0, vs1, dd, dd2, by rw [← rel.length, ← rel2.length]; exact hz, fun h' dd' _ hs => ?_⟩
  have he : ∃ q, h'.get? a = some q := let ⟨q, _, _, hq, _⟩ := dd'; ⟨q, hq⟩
  have hl := length_mergeK more kvs
  exact ⟨.non, _, d_write (t' := s.toks) I (by rw [ea]; exact True.intro) hs he (dk_new (by omega) hd (rel2.merge rel) dd'), rfl, q⟩
/-! ### names' dicts -/
section
variable {α : Type} {f : α → V}
def putAll (b r : List (Str × α)) : List (Str × α) := r.foldl (fun b p => putL b p.1 p.2) b
theorem dL_merge : ∀ (r b : List (Str × α)), mergeK (dL f b) (dL f r) = dL f (putAll b r)
  | [], b => rfl
  | p :: r, b => by
    show mergeK (putK (dL f b) (.inr p.1) (f p.2)) (dL f r) = _
    rw [dL_put, dL_merge r]
    rfl
theorem putL_mid {pre b : List (Str × α)} {n : Str} {v0 v : α} (h : (keysL (pre ++ (n, v0) :: b)).Nodup) : putL (pre ++ (n, v0) :: b) n v = pre ++ (n, v) :: b := by
  have hm : n ∈ keysL (pre ++ (n, v0) :: b) := by simp [keysL]
  unfold putL
  rw [if_pos hm, List.map_append, List.map_cons, if_pos rfl]
  have e1 : pre.map (fun p => if p.1 = n then (n, v) else p) = pre := by
    conv => rhs; rw [← List.map_id pre]
    refine List.map_congr_left fun p hp => ?_
    have : p.1 ≠ n := fun e => by
      rw [keysL, List.map_append, List.nodup_append] at h
      exact h.2.2 p.1 (List.mem_map.mpr ⟨p, hp, rfl⟩) n (by simp) e
    rw [if_neg this]
    rfl
  have e2 : b.map (fun p => if p.1 = n then (n, v) else p) = b := by
    conv => rhs; rw [← List.map_id b]
    refine List.map_congr_left fun p hp => ?_
    have : p.1 ≠ n := fun e => by
      rw [keysL, List.map_append, List.nodup_append, List.map_cons, List.nodup_cons] at h
      exact h.2.1.1 (List.mem_map.mpr ⟨p, hp, e⟩)
    rw [if_neg this]
    rfl
  rw [e1, e2]
theorem putAll_pre : ∀ (r b pre : List (Str × α)), keysL b = keysL r → (keysL (pre ++ b)).Nodup → putAll (pre ++ b) r = pre ++ r
  | [], b, pre, h, _ => by
    have : b = [] := by
      rw [keysL, keysL, List.map_nil, List.map_eq_nil_iff] at h
      exact h
    rw [this]
    rfl
  | (n, v) :: r, b, pre, h, hn => by
    cases b with
    | nil => simp [keysL] at h
    | cons q b =>
      obtain ⟨m, v0⟩ := q
      simp only [keysL, List.map_cons, List.cons.injEq] at h
      obtain ⟨rfl, h⟩ := h
      show putAll (putL (pre ++ (m, v0) :: b) m v) r = _
      rw [putL_mid hn]
      have e : pre ++ (m, v) :: b = (pre ++ [(m, v)]) ++ b := by simp
      rw [e, putAll_pre r b (pre ++ [(m, v)]) h (by
        have : keysL (pre ++ [(m, v)] ++ b) = keysL (pre ++ (m, v0) :: b) := by simp [keysL]
        rw [this]
        exact hn)]
      simp
theorem putAll_all {b r : List (Str × α)} (h : keysL b = keysL r) (hn : (keysL b).Nodup) : putAll b r = r := putAll_pre r b [] h hn
theorem putAll_app (b r1 r2 : List (Str × α)) : putAll b (r1 ++ r2) = putAll (putAll b r1) r2 := List.foldl_append
end
end Ru

set_option Elab.async false
set_option linter.all false
set_option maxRecDepth 100000
set_option maxHeartbeats 2000000
/-! a method that may raise, called in a try's body -/
namespace Ru
open PySem PySem.Spec PyProof.Rows L2
/-- o.m(..) where what it raises is handled by the slots -/
def tMethS (T : Addr → Prop) (m : Str) (sp : Addr → Sp) (E : L2.St → XK) (ta : TE) (t : TA) : TE := fun σ H Q => ta σ H fun x H1 => ∃ a C dx fs, x = .ref a ∧ H1 a = some (.ins C dx fs) ∧ T C ∧ fs.lookup m = none ∧ t σ H1 fun vs H2 => sp C (x :: vs) H2 Q (E σ)
section
variable {X : Cx} {W : WX} {j k : Nat} {ps : List Str} {sp : Addr → Sp} {T : Addr → Prop} {m : Str} {p pos apos : Pos} {e o : Expr} {es : List Expr} {ta : TE} {t : TA}
theorem pe_methT {pl : Sem Bool} (D : DispAt X.prog X.w X.K X.mg X.base (L2.CX X.prog X.w) T m k ps sp) (hr : Room j X.A) (tk : L2.Takes X W) (he : PE X o ta) (ha : PA X (e :: es) t) (hj : k ≤ j := by decide)
    (hst : starEach (e :: es) X.env = (false, eval e X.env) :: starEach es X.env := by rfl) (hpl : (backTo pos (starEach es X.env)).any (·.1) = false := by rfl)
    (ht : eval (.Call (.Attribute o m apos) (e :: es) [] pos) X.env = (do
      let ov ← eval o X.env
      standAt apos.atName
      let (f, first) ← holding [ov] (getMethod ov m pl)
      callWith pos f first (backTo pos (starEach (e :: es) X.env)) (backToKw pos (keywordEach [] X.env))) := by rfl) :
    PE X (.Call (.Attribute o m apos) (e :: es) [] pos) (tMethS T m sp (WE W) ta t) := by
  refine ⟨fun pins s σ H Q I h => ?_⟩
  refine PySem.W.methodCall_KW (pl := pl) (thn (he.run pins s σ H _ I h) ?_) ht
  rintro u s1 ⟨x, H1, I1, rx, a, C, dx, fs, rfl, ea, tc, l, q⟩
  obtain rfl : u = Value.ref a := rx
  obtain ⟨f, fd, c, hm, hb, F⟩ := D.ex C tc
  refine getmeth_ok I1 ea c hm l ?_
  refine PySem.W.callWith_K (first := [.ref a]) (h₀ := X.base) I.ok.mod.kin hm.kp (thn (ha.run pos pins s1 σ H1 _ I1 q) ?_) hst hpl
  rintro us s2 ⟨vs, H2, I2, r, q2⟩
  exact ⟨I2.kIn, L2.run_fnS (us := .ref a :: us) (vs := .ref a :: vs) (E := WE W) (F.mono hj) hr hb (L2.passAt tk σ) I2 (.cons rfl r) q2⟩
end
section
variable {K : PySem.W.Frag} {mg mg' : Str → Option Value} {x y : Str} {C D L M : Addr}
theorem ExcAt.self (T : ExcAt K mg x C L) : PySem.W.exmOne K (.ref C) (.ref C) = some true := by
  refine PySem.W.exm_ref T.is_.hs T.is_.hd T.tP ?_
  rw [T.subs]
  congr 1
  simp
end
/-! ### in a comprehension's element -/
theorem call_tuple_ofK {X : Cx} (K : PySem.W.Frag) (h : X.K = K) : CallR X (.type "tuple") (fun xs H Q => ∃ p ys, xs = [.ref p] ∧ ((SqL K H p ys ∧ ∀ l, H l = none → Q (.ref l) (upd H l (.tup ys))) ∨ (SqT K H p ys ∧ Q (.ref p) H))) := h ▸ call_tuple_of
theorem call_list_ofK {X : Cx} (K : PySem.W.Frag) (h : X.K = K) : CallR X (.type "list") (fun xs H Q => ∃ p ys, xs = [.ref p] ∧ (SqL K H p ys ∨ SqT K H p ys) ∧ ∀ l, H l = none → Q (.ref l) (upd H l (.lst ys))) := h ▸ call_list_of
theorem call_len_seqK {X : Cx} (K : PySem.W.Frag) (h : X.K = K) : CallR X (.builtin "len") (fun xs H Q => ∃ p ys, xs = [.ref p] ∧ (SqL K H p ys ∨ SqT K H p ys) ∧ Q (.int ys.length) H) := h ▸ call_len_seq
/-- what stood while something was locked stands behind it -/
theorem lock_same {H H' : Hp} {d : Addr} {od : Obj} {u : HO} (h : H d = some u) (s : Same (upd H d (.frz od u)) H') : Same H (upd H' d u) := fun b o e => by
  by_cases hb : b = d
  · subst hb
    rw [h] at e
    cases e
    exact upd_same
  · rw [upd_ne hb]
    exact s b o (by rw [upd_ne hb]; exact e)
theorem lock_at {H : Hp} {d b : Addr} {od : Obj} {u o : HO} (n : b ≠ d) (h : H b = some o) : upd H d (.frz od u) b = some o := by rw [upd_ne n]; exact h
end Ru

set_option Elab.async false
set_option linter.all false
set_option maxRecDepth 100000
set_option maxHeartbeats 2000000
/-! enumerate(list or tuple) -/
namespace PySem
open Sem (wp)
open AutoSeq1 (wpAny_loadPart')
theorem meets_enumerate_newT (l : Addr) (items : Array Value) (n : Nat) (dct : Option Addr) (sl : Array (Option Value)) :
    Meets (Builtin.«enumerate.__new__» ⟨[.type "enumerate", .ref l], []⟩) (fun _ R s => s.heap.get? l = some { cls := .type "tuple", dict := dct, data := .seq items n, slots := sl } ∧
      R (.ok (.ret (.ref (s.heap.push { cls := .type "tuple_iterator", data := .fields #[.ref l, .int 0 0] }).objs.size)))
        { s with heap := (s.heap.push { cls := .type "tuple_iterator", data := .fields #[.ref l, .int 0 0] }).push { cls := .type "enumerate", data := .fields #[.none, .bool false, .ref s.heap.objs.size, rawInt 0, .none, .none] } }) :=
  .of_wp fun prog w A R s h => by
    obtain ⟨hp, g, d, tk, os⟩ := s; obtain ⟨hl, h⟩ := h
    have hsub := sub_enumerate
    have hL : Heap.IsTuple (Shared.heap ⟨hp, g, d, tk, os⟩) l items := ⟨_, hl, rfl, n, rfl⟩
    wp_walk using wpAny_loadPart' hl
    refine wpAny_stack_any fun st => wpAny_pure ?_
    split
    · rename_i c _ _ _ _ _
      cases (c == Value.type "enumerate")
      · wp_walk using wpAny_loadPart' hl, wpAny_pyIter_tuple hL
        exact ⟨_, rfl, h⟩
      · wp_walk using wpAny_loadPart' hl, wpAny_pyIter_tuple hL
        exact ⟨_, rfl, h⟩
    · wp_walk using wpAny_loadPart' hl, wpAny_pyIter_tuple hL
      exact ⟨_, rfl, h⟩
theorem call_enumerate_tuple {prog : Program} {w : World} {A : Around} {E : Value → Shared → Prop} {s : Shared} {l : Addr} {items : Array Value} {Q : Value → Shared → Prop} (hL : s.heap.IsTuple l items)
    (h : ∀ h', IsEnum h' (s.heap.objs.size + 1) s.heap.objs.size 0 .none → h'.IsTupleIter s.heap.objs.size l 0 → h'.objs.size = s.heap.objs.size + 2 →
      (∀ b o, s.heap.get? b = some o → h'.get? b = some o) → Q (.ref (s.heap.objs.size + 1)) { s with heap := h' }) :
    wpAny (model prog w) A (call (.type "enumerate") [.ref l]) Q E s := by
  obtain ⟨⟨c, dct, dt, sl⟩, hl, hc, n, hd⟩ := hL
  replace hc : c = .type "tuple" := hc
  replace hd : dt = .seq items n := hd
  subst hc hd
  refine callType_new F.called_enumerate (by decide) (F.typeCall_enumerate_1 _) (F.newCall_enumerate_1 _) (fun obj => F.args_object_init_2 obj _) F.entry_enumerate_new
    (meets_enumerate_newT l items n dct sl) ⟨hl, ?_⟩
  have hz : (s.heap.push { cls := .type "tuple_iterator", data := .fields #[.ref l, .int 0 0] }).objs.size = s.heap.objs.size + 1 := Heap.size_push ..
  show _ ∧ _
  rw [hz]
  have he : IsEnum ((s.heap.push { cls := .type "tuple_iterator", data := .fields #[.ref l, .int 0 0] }).push
      { cls := .type "enumerate", data := .fields #[.none, .bool false, .ref s.heap.objs.size, rawInt 0, .none, .none] }) (s.heap.objs.size + 1) s.heap.objs.size 0 .none := by
    have := Heap.get?_push_size (s.heap.push { cls := .type "tuple_iterator", data := .fields #[.ref l, .int 0 0] })
      (o := { cls := .type "enumerate", data := .fields #[.none, .bool false, .ref s.heap.objs.size, rawInt 0, .none, .none] }) rfl
    rw [hz] at this; exact this
  refine ⟨⟨_, he, rfl⟩, h _ he ⟨_, Heap.get?_push_of_some _ (Heap.get?_push_size _ rfl), rfl, rfl⟩ (by rw [Heap.size_push, hz]) fun b o x => Heap.get?_push_of_some _ (Heap.get?_push_of_some _ x)⟩
theorem wpAny_pyNext_enum_endT {prog : Program} {w : World} {A : Around} {E : Value → Shared → Prop} {s : Shared} {e it l : Addr} {i : Nat} {items : Array Value} {old : Value} {Q : Option Value → Shared → Prop} (hh : A.handled = none)
    (he : IsEnum s.heap e it i old) (hit : s.heap.IsTupleIter it l i) (hl : s.heap.IsTuple l items) (hx : items[i]? = none)
    (hQ : ∀ h', Heap.ExtBut it s.heap h' → Q none { s with heap := h' }) : wpAny (model prog w) A (pyNext (.ref e)) Q E s := by
  have hT : s.TypeIs (.ref e) "enumerate" := ⟨_, he, rfl⟩
  unfold pyNext
  refine wpAny_bind (wpAny_attempt (wpAny_callSpecial?_slot (name := Str.ofString "__next__") hT F.slot_enumerate_next
    (wpAny_call_entry F.slot_enumerate_next hT F.entry_enumerate_next ?_ (F.args_enumerate_next_1 _))))
  show wpAny _ _ (field (.ref e) 2 >>= _) _ _ _
  refine wpAny_bind (wpAny_field he rfl (x := .ref it) rfl ?_)
  refine wpAny_bind (wpAny_nextOf_tuple_end hh hit hl hx fun h' x he' hx' => ?_)
  obtain ⟨o, ho, hc⟩ := hx'
  refine wpAny_bind (wpAny_isInstance (T := "StopIteration") (b := true) ⟨o, ho, hc⟩ isSubtype_stop ?_)
  exact wpAny_pure (hQ _ he')
end PySem
namespace Ru
open PySem PySem.Spec PyProof.Rows L2
/-- the tuple at a as it stands at each turn, each item in a new pair -/
def IteT (K : PySem.W.Frag) (a : Addr) : It :=
  ⟨fun i H => ∃ (xs : List V) (x : V), SqT K H a xs ∧ xs[i]? = some x, fun i H v H' => ∃ T x, v = .ref T ∧ H T = none ∧ H' = upd H T (.tup [.int (i : Nat), x]) ∧ ∀ xs, SqT K H a xs → xs[i]? = some x, fun i H => ∃ xs : List V, SqT K H a xs ∧ xs.length ≤ i⟩
theorem turn_enumT {P : Program} {w : World} {K : PySem.W.Frag} {elts : List Expr} {kk : Nat} {tpos : Pos} (a e it : Addr) :
    Turn P w K (.Tuple elts kk tpos) (IteT K a) [e, it] e (fun i h => (∃ old, IsEnum h e it ((i : Nat) : Int) old) ∧ h.IsTupleIter it a i ∧ e ≠ it) where
  mem := by simp
  obj := fun i h st b hb => by
    obtain ⟨⟨old, he⟩, ⟨o, ho, hc, hd⟩, _⟩ := st
    have e' : b = e ∨ b = it := by simpa using hb
    rcases e' with z | z
    · rw [z]; exact ⟨_, he, fun v q => nomatch q⟩
    · rw [z]; exact ⟨o, ho, fun v q => by rw [hd] at q; cases q⟩
  keep := fun i h h' st k => let ⟨⟨old, he⟩, hi, hne⟩ := st; ⟨⟨old, k e (by simp) _ he⟩, hi.at fun o q => k it (by simp) o q, hne⟩
  item := by
    intro X hP hw hK hc i pins s σ H E I hf st hg
    subst hP hw hK
    obtain ⟨⟨old, he⟩, hit, hne⟩ := st
    obtain ⟨xs, x, hq, hx⟩ := hg
    obtain ⟨its, rv, p, hz⟩ := I.tuple hq
    obtain ⟨u, hu, ru⟩ := rv.get hx
    have hel : e < s.heap.objs.size := Heap.lt_size he
    have hil : it < s.heap.objs.size := by obtain ⟨_, q, _⟩ := hit; exact Heap.lt_size q
    have pT : s.heap.IsTuple a its.toArray := p
    have hal : a ≠ it := fun z => by
      obtain ⟨o, ho, hcl, _⟩ := hit
      obtain ⟨o2, ho2, hcl2, _⟩ := pT
      rw [z, ho] at ho2
      cases ho2
      rw [hcl] at hcl2
      exact absurd hcl2 (by simp)
    have hae : e ∉ [it, a] := fun z => by
      rcases List.mem_cons.mp z with z | z
      · exact hne z
      · have z := List.mem_singleton.mp z
        obtain ⟨o2, ho2, hcl2, _⟩ := pT
        rw [← z, he] at ho2
        cases ho2
        exact absurd hcl2 (by simp)
    have hlt : i < its.toArray.size := by
      have := (List.getElem?_eq_some_iff.mp hu).1
      simpa using this
    refine wpAny_pyNext_enum_itemD (Draws.tuple (prog := X.prog) (w := X.w) (A := X.A.in1) (I.ok.hd hc) it a hal its.toArray) he ⟨hit, pT⟩ hlt hne hae fun u' h' tk hu' ho hst hT hsz hk => ?_
    have hu' : its.toArray[i]? = some u' := hu'
    have eu : u' = u := by
      have : its.toArray[i]? = some u := by simpa using hu
      rw [hu'] at this
      cases this
      rfl
    subst eu
    refine ⟨_, rfl, wpAny_letOwnedTupleGo_enum (s := { s with heap := h', toks := tk + 1 }) ho fun h'' he' sb => ?_⟩
    have hT2 : h''.get? s.heap.objs.size = some { cls := .type "tuple", data := .seq #[.int i tk, u'] } := (sb.2 _ (Nat.ne_of_gt hel)).trans hT
    have new : ObjOk X.prog X.w (upd H s.heap.objs.size (.tup [.int (i : Nat), x])) h'' s.heap.objs.size (.tup [.int (i : Nat), x]) :=
      ⟨by show 2 ≤ sizeLine; decide, [.int i tk, u'], .cons ⟨_, rfl⟩ (.cons ru .nil), ⟨_, hT2, rfl, _, rfl⟩⟩
    have I1 : Inv X pins σ (upd H s.heap.objs.size (.tup [.int (i : Nat), x])) { s with heap := h'', toks := tk + 1 } :=
      I.turnedNew (ch := [e, it]) (fun b ob hb q => (sb.2 b (fun z => hb (by simp [z]))).trans (hk b ob (fun z => hb (by simp [z])) (fun z => hb (by simp [z])) q)) hf (Nat.le_refl _) new
    have hit' : h'.IsTupleIter it a (i + 1) := hst.1
    refine ⟨.ref s.heap.objs.size, _, I1, rfl, ⟨_, x, rfl, I.hok.fresh (Nat.le_refl _), rfl, fun ys hy => by rw [I.tuple_inj hy hq]; exact hx⟩, ⟨⟨u', ?_⟩, hit'.at fun o q => (sb.2 it (Ne.symm hne)).trans q, hne⟩, fun b hb => ?_⟩
    · have e1 : ((i + 1 : Nat) : Int) = (i : Int) + 1 := by omega
      rw [e1]; exact he'
    · have hb' : b < s.heap.objs.size := by
        have e' : b = e ∨ b = it := by simpa using hb
        rcases e' with z | z
        · rw [z]; exact hel
        · rw [z]; exact hil
      rw [upd_ne (Nat.ne_of_lt hb')]
      exact (hf b hb).1
  done := by
    intro X hP hw hK hc i pins s σ H E I hf st hg
    subst hP hw hK
    obtain ⟨⟨old, he⟩, hit, hne⟩ := st
    obtain ⟨xs, hq, hx⟩ := hg
    obtain ⟨its, rv, p, hz⟩ := I.tuple hq
    obtain ⟨f0, f1, f2, f3, f4, f5⟩ := hf it (by simp)
    have hl := rv.length
    have pT : s.heap.IsTuple a its.toArray := p
    exact wpAny_pyNext_enum_endT (I.ok.hd hc) he hit pT (by simp; omega) fun h' eb => ⟨rfl, I.turned (t' := s.toks) (fun b o hb q => eb b o hb q) f0 f1 f3 f4 f5⟩
  self := fun A i s Q E st h => let ⟨⟨_, he⟩, _⟩ := st; wpAny_pyIter_enum he h
def iEnumA (K : PySem.W.Frag) (ta : TA) : TI := fun σ H R => ta σ H fun vs H1 => ∃ a xs, vs = [.ref a] ∧ ((SqL K H1 a xs ∧ R (Ite K a) H1) ∨ (SqT K H1 a xs ∧ R (IteT K a) H1))
theorem pi_enumA {X : Cx} {e : Expr} {ta : TA} {p pos tpos : Pos} {elts : List Expr} {kk : Nat} (hg : Gl X "enumerate") (hm : X.mg "enumerate" = none) (ha : PA X [e] ta) (hs : starEach [e] X.env = [(false, eval e X.env)] := by rfl) :
    PI X (.Tuple elts kk tpos) (.Call (.Name "enumerate" p) [e] [] pos) (iEnumA X.K ta) := by
  refine ⟨fun pins s σ H R I h => ?_⟩
  refine Call_ (ld_blt I hg hm boot_enumerate (PyProof.Rows.callWith_type1 (thn (ha.run pos pins s σ H _ I h) fun us s1 ⟨vs, H1, I1, r1, q1⟩ => ?_) hs rfl))
  obtain ⟨a, xs, ex, q⟩ := q1
  subst ex
  cases r1 with
  | cons r rr =>
    cases rr
    cases r
    have fin : ∀ {h' : Heap} {R' : It} {tn : Nat → Heap → Prop}, (∀ b o, s1.heap.get? b = some o → h'.get? b = some o) → Turn X.prog X.w X.K (.Tuple elts kk tpos) R' [s1.heap.objs.size + 1, s1.heap.objs.size] (s1.heap.objs.size + 1) tn → tn 0 h' → R R' H1 →
        PIE X pins σ (.Tuple elts kk tpos) R (.ref (s1.heap.objs.size + 1)) { s1 with heap := h' } := fun {h' R' tn} hk T st q => by
      have I2 : Inv X pins σ H1 { s1 with heap := h' } := I1.kept (t' := s1.toks) hk
      refine ⟨s1.heap.objs.size + 1, [s1.heap.objs.size + 1, s1.heap.objs.size], tn, R', H1, rfl, I2, T, st, fun b hb => ?_, q⟩
      have e' : b = s1.heap.objs.size + 1 ∨ b = s1.heap.objs.size := by simpa using hb
      have hle : s1.heap.objs.size ≤ b := by
        rcases e' with z | z
        · rw [z]; exact Nat.le_add_right _ _
        · rw [z]; exact Nat.le_refl _
      exact I1.fpOk hle (I1.hok.fresh hle)
    rcases q with ⟨hq, q⟩ | ⟨hq, q⟩
    · obtain ⟨its, rv, p', hz⟩ := I1.list hq
      exact call_enumerate_list p'.isList fun h' he hit hsz hk => wpAny_pyIter_enum he (fin hk (turn_enum a _ _) ⟨⟨.none, he⟩, hit, Nat.succ_ne_self _⟩ q)
    · obtain ⟨its, rv, p', hz⟩ := I1.tuple hq
      exact call_enumerate_tuple p' fun h' he hit hsz hk => wpAny_pyIter_enum he (fin hk (turn_enumT a _ _) ⟨⟨.none, he⟩, hit, Nat.succ_ne_self _⟩ q)
theorem walk_enumT {K : PySem.W.Frag} {a : Addr} {xs : List V} : Walk (IteT K a) xs.length (fun H => SqT K H a xs) (YPair (fun i => some (.int (i : Nat))) (fun i => xs[i]?)) := by
  refine ⟨fun i _ hi q => ⟨xs, xs[i], q, by simp [hi]⟩, fun _ q => ⟨xs, q, Nat.le_refl _⟩, fun i H v H' _ q y => ?_⟩
  obtain ⟨T, x, h1, h2, h3, h4⟩ := y
  exact ⟨T, _, x, h1, h2, h3, rfl, h4 xs q⟩
end Ru

set_option Elab.async false
set_option linter.all false
set_option maxRecDepth 100000
set_option maxHeartbeats 2000000
/-! a dict that is told anew and gone through at once: locked from then on -/
namespace Ru
open PySem PySem.Spec PyProof.Rows L2
def tLockF (td : TE) : TE := fun σ H Q => td σ H fun x H1 => ∃ d kvs, x = .ref d ∧ H1 d = some (.dK kvs) ∧ ∀ od, Q (.ref d) (upd H1 d (.frz od (.dK kvs)))
section
variable {X : Cx}
theorem pe_lockF {e : Expr} {td : TE} (he : PE X e td) : PE X e (tLockF td) := by
  refine ⟨fun pins s σ H Q I h => ?_⟩
  refine thn (he.run pins s σ H _ I h) fun u s1 ⟨x, H1, I1, rx, d, kvs, ex, hd, q⟩ => ?_
  subst ex
  obtain ⟨od, I2⟩ := I1.lock hd True.intro
  exact ⟨.ref d, _, I2, rx, q od⟩
end
end Ru

set_option Elab.async false
set_option linter.all false
/-! wide shifts, by name -/
namespace Ru
theorem wide_shifts : True := trivial
end Ru

set_option Elab.async false
set_option linter.all false
set_option maxRecDepth 100000
set_option maxHeartbeats 2000000
/-! defs whose last parameter has a default -/
namespace Ru
open PySem PySem.Spec PyProof.Rows L2
/-- the def called x is the module's; v stands where its last argument lacks, k is that parameter's name -/
structure DefAtD (K : PySem.W.Frag) (mg : Str → Option Value) (x : Str) (st : Stmt) (ps : List Str) (k : Str) (v : V) : Prop where
  ex : ∃ f fd, mg x = some (.ref f) ∧ FunD K x x (defArgs st) (defBody st) (defScope st) [v] [] f fd ∧ Binds K fd ps [] ∧ (∃ ds, Vals [v] ds ∧ Binds K fd ps ds) ∧ KBn K fd ps (ps.length - 1) [k] (fun us ws => us ++ ws) (fun vs zs => vs ++ zs)
structure FnAtD (P : Program) (w : World) (K : PySem.W.Frag) (mg : Str → Option Value) (base : Heap) (cx : CXT) (x : Str) (n : Nat) (ps : List Str) (k : Str) (v : V) (sp : Sp) : Prop where
  ex : ∃ f fd, mg x = some (.ref f) ∧ PySem.W.keepIn K (.ref f) = true ∧ Binds K fd ps [] ∧ (∃ ds, Vals [v] ds ∧ Binds K fd ps ds) ∧ KBn K fd ps (ps.length - 1) [k] (fun us ws => us ++ ws) (fun vs zs => vs ++ zs) ∧ FnOk P w K mg base cx n f fd ps sp
section
variable {P : Program} {w : World} {K : PySem.W.Frag} {mg : Str → Option Value} {base : Heap} {cx : CXT} {x k : Str} {n : Nat} {ps : List Str} {v : V} {sp : Sp}
theorem FnAtD.full (F : FnAtD P w K mg base cx x n ps k v sp) : FnAt P w K mg base cx x n ps sp := by
  obtain ⟨f, fd, h1, h2, h3, h4, h5, h6⟩ := F.ex
  exact ⟨f, fd, h1, h2, h3, h6⟩
theorem FnAtD.calm (F : FnAtD P w K mg base (L2.CX P w) x n ps k v sp) : FnAtD P w K mg base CX0 x n ps k v (fun vs H Q _ => sp vs H Q E0) := by
  obtain ⟨f, fd, h1, h2, h3, h4, h5, h6⟩ := F.ex
  exact ⟨f, fd, h1, h2, h3, h4, h5, fnOk_calm h6⟩
theorem fnAtD_okX {st : Stmt} {N : List Str} (D : DefAtD K mg x st ps k v) (S : FnScope N ps (defScope st)) (len : ∀ vs H Q E, sp vs H Q E → vs.length = ps.length)
    (hbody : ∀ (f : Addr) (cdv : Value) (A : Around) (outer : List Env) (s : Shared) (H : Hp) (vs : List V) (Q : VK) (E : XK), Room n (A.deeper (envOfC x (defScope st) s.heap.objs.size f cdv)) → sp vs H Q E →
      ∃ t, PSs (cxOf (L2.CX P w) P w K mg base N x (defScope st) f cdv A outer s H E) (defBody st) t ∧ t { nx := fun _ H' => Q .non H', rt := Q } (start N vs) H) : FnAtD P w K mg base (L2.CX P w) x (n + 1) ps k v sp := by
  obtain ⟨f, fd, h1, h2, h3, h4, h5⟩ := D.ex
  exact ⟨f, fd, h1, h2.kp, h3, h4, h5, h2.ok S len (hbody f)⟩
theorem fnAtD_ok {st : Stmt} {N : List Str} (D : DefAtD K mg x st ps k v) (S : FnScope N ps (defScope st)) (len : ∀ vs H Q E, sp vs H Q E → vs.length = ps.length)
    (hbody : ∀ (f : Addr) (cdv : Value) (A : Around) (outer : List Env) (s : Shared) (H : Hp) (vs : List V) (Q : VK) (E : XK), Room n (A.deeper (envOfC x (defScope st) s.heap.objs.size f cdv)) → sp vs H Q E →
      ∃ t, PSs (cxOf CX0 P w K mg base N x (defScope st) f cdv A outer s H E) (defBody st) t ∧ t { nx := fun _ H' => Q .non H', rt := Q } (start N vs) H) : FnAtD P w K mg base CX0 x (n + 1) ps k v sp := by
  obtain ⟨f, fd, h1, h2, h3, h4, h5⟩ := D.ex
  exact ⟨f, fd, h1, h2.kp, h3, h4, h5, h2.ok S len (hbody f)⟩
/-- how the arguments bind, by three readings of bindArgs -/
theorem defAtD_mk {st : Stmt} {f : Addr} {fd : FuncData} (g : mg x = some (.ref f)) (F : FunD K x x (defArgs st) (defBody st) (defScope st) [v] [] f fd) (hp : 0 < ps.length)
    (hf : ∀ (T : Addr) (kV doc pm : Value) (an : Option Addr) (cdv ct : Value) (us its : List Value), us.length = ps.length → its.length = 1 → ∃ r, bindArgs (PySem.W.fnOf x x (defArgs st) (defBody st) (defScope st) (.ref T) kV doc pm an cdv ct) ⟨us, []⟩ = seqItems? (.ref T) >>= r ∧ r (some its.toArray) = pure (ps.zip (us ++ its.drop 1)))
    (h1 : ∀ (T : Addr) (kV doc pm : Value) (an : Option Addr) (cdv ct : Value) (us its : List Value), us.length = ps.length - 1 → its.length = 1 → ∃ r, bindArgs (PySem.W.fnOf x x (defArgs st) (defBody st) (defScope st) (.ref T) kV doc pm an cdv ct) ⟨us, []⟩ = seqItems? (.ref T) >>= r ∧ r (some its.toArray) = pure (ps.zip (us ++ its.drop 0)))
    (hk : ∀ (T : Addr) (kV doc pm : Value) (an : Option Addr) (cdv ct : Value) (us its ws : List Value), us.length = ps.length - 1 → its.length = 1 → ws.length = 1 → ∃ r, bindArgs (PySem.W.fnOf x x (defArgs st) (defBody st) (defScope st) (.ref T) kV doc pm an cdv ct) ⟨us, [k].zip ws⟩ = seqItems? (.ref T) >>= r ∧ r (some its.toArray) = pure (ps.zip (us ++ ws))) :
    DefAtD K mg x st ps k v := by
  refine ⟨f, fd, g, F, ?_, ?_, ?_⟩
  · obtain ⟨ds, r, b⟩ := F.binds1 (ps := ps) ps.length 1 (by simp) (by simp) (fun T kV doc pm an cdv ct us its l1 l2 => hf T kV doc pm an cdv ct us its l1 l2)
    cases r
    exact b
  · obtain ⟨ds, r, b⟩ := F.binds1 (ps := ps) (ps.length - 1) 0 (by simp) (by simp; omega) (fun T kV doc pm an cdv ct us its l1 l2 => h1 T kV doc pm an cdv ct us its l1 l2)
    exact ⟨ds, r, b⟩
  · obtain ⟨oc, od, dV, kV, doc, pm, an, cdv, ct, osl, rfl, lk, hcd, hD, hK⟩ := F.ex
    rcases hD with ⟨e, _⟩ | ⟨_, T, o, its, m, rfl, lT, oT, rT⟩
    · cases e
    · refine ⟨fun s us ws X l1 l2 => ?_, fun r1 r2 => r1.append r2⟩
      obtain ⟨r, e1, e2⟩ := hk T kV doc pm an cdv ct us its ws l1 rT.length.symm l2
      refine BindsTo.of_looks fun M => ?_
      rw [e1]
      exact looks_items X lT oT (.of_pure e2)
end
section
variable {X : Cx} {cx : CXT} {W : WX} {j n : Nat} {ps : List Str} {sp : Sp} {E : XK} {x k : Str} {v : V} {p pos : Pos} {e : Expr} {es : List Expr} {kws : List Keyword} {t tk : TA}
theorem pe_callFD (F : FnAtD X.prog X.w X.K X.mg X.base cx x n ps k v sp) (hr : Room j X.A) (hx : Passes cx X E) (ha : PA X (e :: es) t) (hj : n ≤ j := by decide) (hg : Gl X x := by rfl)
    (hdb : (x == ("__debug__" : Str)) = false := by decide) (he : starEach (e :: es) X.env = (false, eval e X.env) :: starEach es X.env := by rfl) (hpl : (backTo pos (starEach es X.env)).any (·.1) = false := by rfl) :
    PE X (.Call (.Name x p) (e :: es) [] pos) (tCall sp [v] E t) := by
  obtain ⟨f, fd, h1, h2, h3, ⟨ds, h4, h4'⟩, h5, h6⟩ := F.ex
  exact pe_call h6 (hr.mono hj) hg h1 h2 h4' h4 hx ha hdb he hpl
theorem pe_callTD (F : FnAtD X.prog X.w X.K X.mg X.base (L2.CX X.prog X.w) x n ps k v sp) (hr : Room j X.A) (tk : L2.Takes X W) (ha : PA X (e :: es) t) (hj : n ≤ j := by decide) (hg : Gl X x := by rfl)
    (hdb : (x == ("__debug__" : Str)) = false := by decide) (he : starEach (e :: es) X.env = (false, eval e X.env) :: starEach es X.env := by rfl) (hpl : (backTo pos (starEach es X.env)).any (·.1) = false := by rfl) :
    PE X (.Call (.Name x p) (e :: es) [] pos) (tCallSD sp [v] (WE W) t) := by
  obtain ⟨f, fd, h1, h2, h3, ⟨ds, h4, h4'⟩, h5, h6⟩ := F.ex
  exact pe_callSD h6 (hr.mono hj) hg h1 h2 h4' h4 (fun σ => L2.passAt tk σ) ha hdb he hpl
theorem pe_callFK (F : FnAtD X.prog X.w X.K X.mg X.base cx x n ps k v sp) (hr : Room j X.A) (hx : Passes cx X E) (ha : PA X (e :: es) t) (hkw : PK X kws tk) (hj : n ≤ j := by decide) (hg : Gl X x := by rfl)
    (hall : (backToKw pos (keywordEach kws X.env)).all (·.1.isSome) = true := by rfl) (hks : (backToKw pos (keywordEach kws X.env)).filterMap (·.1) = [k] := by rfl)
    (hdb : (x == ("__debug__" : Str)) = false := by decide) (he : starEach (e :: es) X.env = (false, eval e X.env) :: starEach es X.env := by rfl)
    (hpl : ((backTo pos (starEach (e :: es) X.env)).any (·.1) || (backToKw pos (keywordEach kws X.env)).any (·.1.isNone)) = false := by rfl) :
    PE X (.Call (.Name x p) (e :: es) kws pos) (tCallN (ps.length - 1) 1 sp (fun vs zs => vs ++ zs) E t tk) := by
  obtain ⟨f, fd, h1, h2, h3, h4, h5, h6⟩ := F.ex
  exact pe_callN h6 (hr.mono hj) hg h1 h2 h5 hx ha hkw hall hks hdb he hpl
end
end Ru

set_option Elab.async false
set_option linter.all false
set_option maxRecDepth 100000
set_option maxHeartbeats 2000000
/-! zip of a list and a tuple -/
namespace Ru
open PySem PySem.Spec PyProof.Rows L2
/-! ### zip of a list and a tuple, made -/
abbrev yH1 (h : Heap) (l : Addr) : Heap := h.push { cls := .type "list_iterator", data := .fields #[.ref l, .int 0 0] }
abbrev yH2 (h : Heap) (l m : Addr) : Heap := (yH1 h l).push { cls := .type "tuple_iterator", data := .fields #[.ref m, .int 0 0] }
abbrev yH3 (h : Heap) (l m : Addr) : Heap := (yH2 h l m).push { cls := .type "tuple", data := .seq #[.ref h.objs.size, .ref (yH1 h l).objs.size] }
abbrev yH4 (h : Heap) (l m : Addr) : Heap := (yH3 h l m).push { cls := .type "tuple", data := .seq #[.none, .none] }
abbrev yH5 (h : Heap) (l m : Addr) : Heap := (yH4 h l m).push { cls := .type "zip", data := .fields #[.none, .bool false, .bool false, .ref (yH2 h l m).objs.size, .ref (yH3 h l m).objs.size] }
theorem meets_zipLT (l m : Addr) (xs ys : Array Value) :
    Meets (Builtin.«zip.__new__» ⟨[.type "zip", .ref l, .ref m], []⟩) (fun _ R s => s.heap.IsList l xs ∧ s.heap.IsTuple m ys ∧ R (.ok (.ret (.ref (yH4 s.heap l m).objs.size))) { s with heap := yH5 s.heap l m }) :=
  .of_wp fun prog w A R s h => by
    obtain ⟨hp, gs, dr, tk, os⟩ := s
    obtain ⟨t1, t2, h⟩ := h
    have sz := sub_zip
    have t1' : Heap.IsList (Shared.heap ⟨hp, gs, dr, tk, os⟩) l xs := t1
    have t2' : Heap.IsTuple (Shared.heap ⟨hp.push { cls := .type "list_iterator", data := .fields #[.ref l, .int 0 0] }, gs, dr, tk, os⟩) m ys := Heap.IsTuple.push t2 _
    wp_walk using wpAny_pyIter_list t1', wpAny_pyIter_tuple t2'
    exact ⟨_, rfl, h⟩
theorem call_zipLT {prog : Program} {w : World} {A : Around} {E : Value → Shared → Prop} {s : Shared} {l m : Addr} {xs ys : Array Value} {Q : Value → Shared → Prop} (t1 : s.heap.IsList l xs) (t2 : s.heap.IsTuple m ys)
    (q : ∀ h', Zst h' (s.heap.objs.size + 4) (s.heap.objs.size + 2) (s.heap.objs.size + 3) s.heap.objs.size (s.heap.objs.size + 1) .none .none .none → h'.IsListIter s.heap.objs.size l 0 → h'.IsTupleIter (s.heap.objs.size + 1) m 0 →
      (∀ c o, s.heap.get? c = some o → h'.get? c = some o) → Q (.ref (s.heap.objs.size + 4)) { s with heap := h' }) : wpAny (model prog w) A (call (.type "zip") [.ref l, .ref m]) Q E s := by
  refine callType_new PySem.F.called_zip (by decide) (PySem.F.typeCall_zip_2 _ _) (PySem.F.newCall_zip_2 _ _) (fun obj => PySem.F.args_object_init_3 obj _ _) PySem.F.entry_zip_new (meets_zipLT l m xs ys) ⟨t1, t2, ?_⟩
  have s1 : (yH1 s.heap l).objs.size = s.heap.objs.size + 1 := Heap.size_push ..
  have s2 : (yH2 s.heap l m).objs.size = s.heap.objs.size + 2 := by rw [Heap.size_push, s1]
  have s3 : (yH3 s.heap l m).objs.size = s.heap.objs.size + 3 := by rw [Heap.size_push, s2]
  have s4 : (yH4 s.heap l m).objs.size = s.heap.objs.size + 4 := by rw [Heap.size_push, s3]
  have up : ∀ {c o}, (yH4 s.heap l m).get? c = some o → (yH5 s.heap l m).get? c = some o := fun e => Heap.get?_push_of_some _ e
  have a5 : (yH5 s.heap l m).get? (yH4 s.heap l m).objs.size = some _ := Heap.get?_push_size _ rfl
  have a4 : (yH5 s.heap l m).get? (yH3 s.heap l m).objs.size = some _ := up (Heap.get?_push_size _ rfl)
  have a3 : (yH5 s.heap l m).get? (yH2 s.heap l m).objs.size = some _ := up (Heap.get?_push_of_some _ (Heap.get?_push_size _ rfl))
  have a2 : (yH5 s.heap l m).get? (yH1 s.heap l).objs.size = some _ := up (Heap.get?_push_of_some _ (Heap.get?_push_of_some _ (Heap.get?_push_size _ rfl)))
  have a1 : (yH5 s.heap l m).get? s.heap.objs.size = some _ := up (Heap.get?_push_of_some _ (Heap.get?_push_of_some _ (Heap.get?_push_of_some _ (Heap.get?_push_size _ rfl))))
  show _ ∧ _
  rw [s2, s3, s4] at a5
  rw [s3] at a4
  rw [s1, s2] at a3
  rw [s1] at a2
  rw [s4]
  refine ⟨⟨_, a5, rfl⟩, q _ ⟨a5, a3, a4⟩ ⟨_, a1, rfl, rfl⟩ ⟨_, a2, rfl, rfl⟩ fun c o e => up (Heap.get?_push_of_some _ (Heap.get?_push_of_some _ (Heap.get?_push_of_some _ (Heap.get?_push_of_some _ e))))⟩
/-! ### the walk over such a zip -/
/-- the list at a and the tuple at b as they stand at each turn -/
def ItzL (K : PySem.W.Frag) (a b : Addr) : It :=
  ⟨fun i H => ∃ (xs ys : List V) (x y : V), (SqL K H a xs ∧ SqT K H b ys) ∧ xs[i]? = some x ∧ ys[i]? = some y,
   fun i H v H' => ∃ t x y, (v = .ref t ∧ H t = none ∧ H' = upd H t (.tup [x, y])) ∧ (∀ xs, SqL K H a xs → xs[i]? = some x) ∧ ∀ ys, SqT K H b ys → ys[i]? = some y,
   fun i H => ∃ xs ys : List V, (SqL K H a xs ∧ SqT K H b ys) ∧ (xs.length ≤ i ∨ ys.length ≤ i)⟩
theorem turn_zipL {P : Program} {w : World} {K : PySem.W.Frag} {elts : List Expr} {kk : Nat} {tpos : Pos} {a b z TI TO i1 i2 : Addr} (D : ZipApart z TI TO i1 i2 a b) :
    Turn P w K (.Tuple elts kk tpos) (ItzL K a b) [z, TI, TO, i1, i2] z (fun i h => (∃ x y, Zst h z TI TO i1 i2 x y .none) ∧ h.IsListIter i1 a i ∧ h.IsTupleIter i2 b i) := by
  have five : ∀ {c : Addr}, c ∈ [z, TI, TO, i1, i2] → c = z ∨ c = TI ∨ c = TO ∨ c = i1 ∨ c = i2 := fun h => by simpa using h
  have off : ∀ {c : Addr}, c ∉ [z, TI, TO, i1, i2] → c ≠ z ∧ c ≠ TI ∧ c ≠ TO ∧ c ≠ i1 ∧ c ≠ i2 := fun h => by simpa using h
  refine ⟨by simp, fun i h st c hc => ?_, fun i h h' st k => ?_, ?_, ?_, fun A i s Q E st h => ?_⟩
  · obtain ⟨⟨x, y, gz, gi, go⟩, ⟨o1, e1, _, d1⟩, o2, e2, _, d2⟩ := st
    rcases five hc with q | q | q | q | q <;> rw [q]
    · exact ⟨_, gz, fun v u => nomatch u⟩
    · exact ⟨_, gi, fun v u => nomatch u⟩
    · exact ⟨_, go, fun v u => nomatch u⟩
    · exact ⟨o1, e1, fun v u => by rw [d1] at u; cases u⟩
    · exact ⟨o2, e2, fun v u => by rw [d2] at u; cases u⟩
  · obtain ⟨⟨x, y, gz, gi, go⟩, n1, n2⟩ := st
    exact ⟨⟨x, y, k z (by simp) _ gz, k TI (by simp) _ gi, k TO (by simp) _ go⟩, n1.at fun o u => k i1 (by simp) o u, n2.at fun o u => k i2 (by simp) o u⟩
  · intro X hP hw hK hc i pins s σ H E I hf st hg
    subst hP hw hK
    obtain ⟨⟨x0, y0, g⟩, n1, n2⟩ := st
    obtain ⟨xs, ys, x, y, ⟨qx, qy⟩, hx, hy⟩ := hg
    obtain ⟨its, rv, pl, _⟩ := I.list qx
    obtain ⟨jts, rw', pr, _⟩ := I.tuple qy
    obtain ⟨u, hu, ru⟩ := rv.get hx
    obtain ⟨v, hv, rv2⟩ := rw'.get hy
    have zl : z < s.heap.objs.size := Heap.lt_size g.z
    have b1 : i1 < s.heap.objs.size := by obtain ⟨_, e, _⟩ := n1; exact Heap.lt_size e
    have b2 : i2 < s.heap.objs.size := by obtain ⟨_, e, _⟩ := n2; exact Heap.lt_size e
    have b3 : b < s.heap.objs.size := by obtain ⟨_, e, _⟩ := pr; exact Heap.lt_size e
    refine pyNext_zipD_item (dr_lst D.l1i1) (dr_tup D.l2i2) D g ⟨n1, pl.isList⟩ ⟨n2, pr⟩ (x := u) (y := v) (by simpa using hu) (by simpa using hv) (fun h' g' m1 m2 ht kp => ?_) pl.lt b3 b1 b2
    refine ⟨_, rfl, wpAny_letOwnedTupleGo_zip (s := { s with heap := h' }) g'.z fun h'' z'' sb => ?_⟩
    have ht2 : h''.get? s.heap.objs.size = some { cls := .type "tuple", data := .seq #[u, v] } := (sb.2 _ (Nat.ne_of_gt zl)).trans ht
    have fresh : ObjOk X.prog X.w (upd H s.heap.objs.size (.tup [x, y])) h'' s.heap.objs.size (.tup [x, y]) := ⟨by show 2 ≤ sizeLine; decide, [u, v], .cons ru (.cons rv2 .nil), ⟨_, ht2, rfl, _, rfl⟩⟩
    have I1 : Inv X pins σ (upd H s.heap.objs.size (.tup [x, y])) { s with heap := h'' } :=
      I.turnedNew (t' := s.toks) (ch := [z, TI, TO, i1, i2]) (fun c o hb e => (sb.2 c (off hb).1).trans (kp c o (off hb).1 (off hb).2.2.1 (off hb).2.2.2.1 (off hb).2.2.2.2 e)) hf (Nat.le_refl _) fresh
    refine ⟨.ref s.heap.objs.size, _, I1, rfl, ⟨_, x, y, ⟨rfl, I.hok.fresh (Nat.le_refl _), rfl⟩, fun l hl => by rw [I.list_inj hl qx]; exact hx, fun l hl => by rw [I.tuple_inj hl qy]; exact hy⟩, ⟨⟨u, v, z'', ?_, ?_⟩, ?_, ?_⟩, fun c hcm => ?_⟩
    · exact (sb.2 _ D.TIz).trans g'.ti
    · exact (sb.2 _ D.TOz).trans g'.to
    · exact m1.1.at fun o e => (sb.2 _ D.i1z).trans e
    · exact m2.1.at fun o e => (sb.2 _ D.i2z).trans e
    · have hlt : c < s.heap.objs.size := by
        rcases five hcm with q | q | q | q | q <;> rw [q]
        · exact zl
        · exact Heap.lt_size g.ti
        · exact Heap.lt_size g.to
        · exact b1
        · exact b2
      rw [upd_ne (Nat.ne_of_lt hlt)]
      exact (hf c hcm).1
  · intro X hP hw hK hc i pins s σ H E I hf st hg
    subst hP hw hK
    obtain ⟨⟨x0, y0, g⟩, n1, n2⟩ := st
    obtain ⟨xs, ys, ⟨qx, qy⟩, hend⟩ := hg
    obtain ⟨its, rv, pl, _⟩ := I.list qx
    obtain ⟨jts, rw', pr, _⟩ := I.tuple qy
    have e1 := rv.length
    have e2 := rw'.length
    have he : its.toArray[i]? = none ∨ jts.toArray[i]? = none := hend.imp (fun q => by simp; omega) fun q => by simp; omega
    exact pyNext_zipD_stop (I.ok.hd hc) (dr_lst D.l1i1) (dr_tup D.l2i2) D g ⟨n1, pl.isList⟩ ⟨n2, pr⟩ he fun h' kp => ⟨rfl, I.turnedL (t' := s.toks) (ch := [z, TI, TO, i1, i2]) (fun c o hb e => kp c o (off hb).1 (off hb).2.2.1 (off hb).2.2.2.1 (off hb).2.2.2.2 e) hf⟩
  · obtain ⟨⟨x, y, g⟩, _⟩ := st
    exact wpAny_pyIter_zip g.z h
/-- zip(t, x): t a list, x a tuple -/
def iZipL (K : PySem.W.Frag) (ta : TA) : TI := fun σ H R => ta σ H fun vs H1 => ∃ a b xs ys, vs = [.ref a, .ref b] ∧ SqL K H1 a xs ∧ SqT K H1 b ys ∧ R (ItzL K a b) H1
theorem pi_zipL {X : Cx} {e e2 : Expr} {ta : TA} {p pos tpos : Pos} {elts : List Expr} {kk : Nat} (hg : Gl X "zip") (hm : X.mg "zip" = none) (ha : PA X [e, e2] ta)
    (hs : starEach [e, e2] X.env = (false, eval e X.env) :: starEach [e2] X.env := by rfl) (hpl : (backTo pos (starEach [e2] X.env)).any (·.1) = false := by rfl) :
    PI X (.Tuple elts kk tpos) (.Call (.Name "zip" p) [e, e2] [] pos) (iZipL X.K ta) := by
  refine ⟨fun pins s σ H R I h => ?_⟩
  refine Call_ (ld_blt I hg hm PyProof.Rows.boot_zip (PyProof.Rows.callWith_type1 (thn (ha.run pos pins s σ H _ I h) fun us s1 ⟨vs, H1, I1, r1, a, b, xs, ys, ex, qx, qy, q⟩ => ?_) hs hpl))
  subst ex
  obtain ⟨u, v, rfl, ru, rv⟩ := vals2 r1
  cases ru
  cases rv
  have up : ∀ c, c ∈ [s1.heap.objs.size + 4, s1.heap.objs.size + 2, s1.heap.objs.size + 3, s1.heap.objs.size, s1.heap.objs.size + 1] → FpOk X pins H1 c := fun c hc => by
    have hle : s1.heap.objs.size ≤ c := by
      simp only [List.mem_cons, List.not_mem_nil, or_false] at hc
      omega
    exact I1.fpOk hle (I1.hok.fresh hle)
  obtain ⟨its, _, p1, _⟩ := I1.list qx
  obtain ⟨jts, _, p2, _⟩ := I1.tuple qy
  have b2 : b < s1.heap.objs.size := by obtain ⟨_, e, _⟩ := p2; exact Heap.lt_size e
  refine call_zipLT p1.isList (show s1.heap.IsTuple b jts.toArray from p2) fun h' g n1 n2 kp => wpAny_pyIter_zip g.z ?_
  exact ⟨s1.heap.objs.size + 4, [s1.heap.objs.size + 4, s1.heap.objs.size + 2, s1.heap.objs.size + 3, s1.heap.objs.size, s1.heap.objs.size + 1], _, _, H1, rfl, I1.kept (t' := s1.toks) (h' := h') kp, turn_zipL (PySem.W.ktu_apart s1.heap.objs.size a b p1.lt b2), ⟨⟨_, _, g⟩, n1, n2⟩, up, q⟩
/-- the walk, as far as the shorter goes -/
theorem for_zipL {K : PySem.W.Frag} {a b : Addr} {xs ys : List V} {g : TG} {tb : TS} {D : Ends} {σ : L2.St} {H : Hp} (Pv : Nat → L2.St → Hp → Prop) (h0 : Pv 0 σ H) (hx : ∀ i σ H, Pv i σ H → SqL K H a xs) (hy : ∀ i σ H, Pv i σ H → SqT K H b ys)
    (hs : ∀ (i : Nat) (x y : V) (t : Addr) (σ : L2.St) (H : Hp), xs[i]? = some x → ys[i]? = some y → Pv i σ H → H t = none → g (.ref t) σ (upd H t (.tup [x, y])) fun σ2 H2 => tb { D with nx := Pv (i + 1), ct := Pv (i + 1), bk := D.nx } σ2 H2) (hd : ∀ σ H, Pv (min xs.length ys.length) σ H → D.nx σ H) :
    ∃ W : Nat → Nat → L2.St → Hp → Prop, (∃ m, W 0 m σ H) ∧ ∀ i m σ H, W i m σ H → ((ItzL K a b).stop i H ∧ D.nx σ H) ∨ ((ItzL K a b).go i H ∧ ∃ N : L2.St → Hp → Prop, (∀ σ' H', N σ' H' → ∃ m', m' < m ∧ W (i + 1) m' σ' H') ∧ ∀ v H', (ItzL K a b).yld i H v H' → g v σ H' fun σ2 H2 => tb { D with nx := N, ct := N, bk := D.nx } σ2 H2) := by
  refine ⟨fun i m σ H => m = min xs.length ys.length - i ∧ i ≤ min xs.length ys.length ∧ Pv i σ H, ⟨min xs.length ys.length, by simp, Nat.zero_le _, h0⟩, ?_⟩
  rintro i m σ H ⟨rfl, hi, p⟩
  have qx := hx i σ H p
  have qy := hy i σ H p
  by_cases hlt : i < min xs.length ys.length
  · have e1 : xs[i]? = some xs[i] := List.getElem?_eq_getElem (by omega)
    have e2 : ys[i]? = some ys[i] := List.getElem?_eq_getElem (by omega)
    refine .inr ⟨⟨xs, ys, _, _, ⟨qx, qy⟩, e1, e2⟩, Pv (i + 1), fun σ' H' p' => ⟨min xs.length ys.length - (i + 1), by omega, rfl, hlt, p'⟩, fun v H' y => ?_⟩
    obtain ⟨t, x', y', ⟨rfl, ht, rfl⟩, f1, f2⟩ := y
    exact hs i x' y' t σ H (f1 xs qx) (f2 ys qy) p ht
  · have e : i = min xs.length ys.length := by omega
    subst e
    exact .inl ⟨⟨xs, ys, ⟨qx, qy⟩, by omega⟩, hd σ H p⟩
/-- one of two readings -/
theorem op_or {X : Cx} {f} {r1 r2 : R2} (h1 : OpR X f r1) (h2 : OpR X f r2) : OpR X f (fun x y H Q => r1 x y H Q ∨ r2 x y H Q) := by
  intro pins s σ H x y v u Q I rx ry h
  rcases h with h | h
  · exact h1 pins s σ H x y v u Q I rx ry h
  · exact h2 pins s σ H x y v u Q I rx ry h
end Ru

set_option Elab.async false
set_option linter.all false
set_option maxRecDepth 100000
set_option maxHeartbeats 2000000
/-! tuple(reversed(x)), x a tuple -/
namespace Rv
open PySem PySem.Spec PyProof.Rows L2 RT
theorem no_len : typeLookup (.type "reversed") "__len__" = pure none := by rw [typeLookup_type, builtinLookup_eq_fast] <;> kernel_rfl
theorem slot_hint : Slot "reversed" "__length_hint__" "reversed.__length_hint__" := by
  refine .of (owner := "reversed") (n := "__length_hint__") ?_ ?_ ?_ ?_ ?_ ?_
  · rw [typeLookup_type, builtinLookup_eq_fast] <;> kernel_rfl
  · decide +kernel
  · decide +kernel
  · decide +kernel
  · first | exact Or.inl (by decide +kernel) | exact Or.inr (by decide +kernel)
  · rw [isSubtype_type] <;> kernel_rfl
theorem entry_hint : entryFor table "reversed.__length_hint__" = some Builtin.«reversed.__length_hint__» := by exact entryFor_of_tree (by kernel_rfl)
theorem args_hint (a : Value) : argsOk "reversed.__length_hint__" ⟨[a], []⟩ := by
  unfold argsOk
  rw [signature?_of (id := "reversed.__length_hint__") (n := "__length_hint__".toList.reverse) (o := "reversed".toList.reverse) (by kernel_rfl) owner_rt]
  kernel_rfl
/-- the walk back over a tuple -/
theorem walks {prog : Program} {w : World} {A : Around} (hh : A.handled = none) (I t : Addr) (hne : t ≠ I) (xs : Array Value) (hz : xs.size ≤ sizeLine) :
    Walks prog w A I [I, t] [I] xs.size (fun i v => xs[xs.size - 1 - i]? = some v) (fun i h => i ≤ xs.size ∧ IsRt h I t ((xs.size : Int) - 1 - (i : Int)) ∧ IsTup h t xs) := by
  constructor
  · intro b hb
    rw [List.mem_singleton.mp hb]
    exact List.mem_cons_self
  · rintro i h h' ⟨p1, p2, o, ho, p3⟩ hk
    exact ⟨p1, p2.at fun z => hk I List.mem_cons_self z, o, hk t (List.mem_cons_of_mem _ List.mem_cons_self) o ho, p3⟩
  · rintro i s Q E hi ⟨p1, p2, p3⟩ hQ
    have e1 : (xs.size : Int) - 1 - (i : Int) = ((xs.size - 1 - i : Nat) : Int) := by omega
    have e2 : ((xs.size - 1 - i : Nat) : Int) - 1 = (xs.size : Int) - 1 - ((i + 1 : Nat) : Int) := by omega
    have hx : xs[xs.size - 1 - i]? = some (xs[xs.size - 1 - i]'(by omega)) := Array.getElem?_eq_getElem (by omega)
    refine next_rt_item (e1 ▸ p2) p3 hx hz fun h' a b => ?_
    refine hQ _ h' (s.toks + 1) hx ⟨hi, e2 ▸ a, ?_⟩ fun c o hc eo => b.extBut c o (fun z => hc (List.mem_singleton.mpr z)) eo
    exact p3.extBut b.extBut hne
  · rintro s Q E ⟨p1, p2, p3⟩ hQ
    refine next_rt_end hh (show IsRt s.heap I t (-1) from ?_) fun h' a => hQ h' s.toks fun c o hc eo => a c o (fun z => hc (List.mem_singleton.mpr z)) eo
    have e : (xs.size : Int) - 1 - (xs.size : Int) = -1 := by omega
    exact e ▸ p2
  · rintro i s Q E ⟨p1, p2, p3⟩ hQ
    exact iter_rt p2 hQ
section
variable {prog : Program} {w : World} {A : Around} {E : Value → Shared → Prop} {s : Shared} {I t S : Addr} {xs : Array Value}
theorem int_bind {M : Model} {β : Type} {n : Int} {k : Tok} {f : Option Int → Sem β} {Q : β → Shared → Prop} (h : wpAny M A (f (some n)) Q E s) : wpAny M A (asInt? (.int n k) >>= f) Q E s := wpAny_bind (wpAny_of_eq (a := some n) rfl h)
/-- its length_hint -/
theorem hint {Q : Value → Shared → Prop} (p : IsRt s.heap I t ((xs.size : Int) - 1)) (ht : IsTup s.heap t xs) (hz : xs.size ≤ sizeLine)
    (hQ : ∀ k, Q (.int xs.size k) { s with toks := s.toks + 1 + 1 + 1 }) : wpAny (model prog w) A (call (.builtin "reversed.__length_hint__") [.ref I]) Q E s := by
  obtain ⟨o, ho, hc, hd⟩ := id p
  refine wpAny_call_entry slot_hint p.typeIs entry_hint ?_ (args_hint _)
  unfold Builtin.«reversed.__length_hint__»
  refine wpAny_bind (wpAny_of_eq (a := Value.ref I) rfl (wpAny_bind (wpAny_field ho hd (x := .ref t) rfl ?_)))
  have e0 : (Value.ref t == Value.none) = false := rfl
  rw [e0, if_neg Bool.false_ne_true]
  refine wpAny_bind (len_tuple ht (by have := line63; omega) ?_)
  refine wpAny_bind (wpAny_of_eq (a := some ((xs.size : Nat) : Int)) rfl ?_)
  refine wpAny_bind (wpAny_field (s := { s with toks := s.toks + 1 + 1 }) ho hd (x := rawInt ((xs.size : Int) - 1)) rfl ?_)
  show wpAny _ _ (if ((xs.size : Nat) : Int) < (xs.size : Int) - 1 + 1 then _ else _) _ _ _
  rw [if_neg (by omega), show (xs.size : Int) - 1 + 1 = xs.size by omega]
  refine wpAny_bind (wpAny_mkInt (wpAny_pure ⟨_, rfl, hQ _⟩))
/-- drawn to its end -/
theorem coll {Q : List Value → Shared → Prop} (hh : A.handled = none) (p : IsRt s.heap I t ((xs.size : Int) - 1)) (ht : IsTup s.heap t xs) (hne : t ≠ I) (hz : xs.size ≤ sizeLine)
    (hQ : ∀ (h' : Heap) (tk : Nat) (acc : Array Value), (∀ b o, b ≠ I → s.heap.get? b = some o → h'.get? b = some o) → ItemsOf (fun i v => xs[xs.size - 1 - i]? = some v) acc xs.size → Q acc.toList { s with heap := h', toks := tk }) :
    wpAny (model prog w) A (collect (.ref I)) Q E s := by
  have W := (walks (prog := prog) (w := w) (A := A.in1) hh I t hne xs hz).toS
  obtain ⟨oi, hoi, _⟩ := id p
  obtain ⟨ot, hot, _⟩ := id ht
  have nI : s.heap.objs.size ≠ I := Nat.ne_of_gt (Heap.lt_size hoi)
  have nt : s.heap.objs.size ≠ t := Nat.ne_of_gt (Heap.lt_size hot)
  have nf : s.heap.objs.size ∉ [I, t] := fun m => (List.mem_cons.mp m).elim nI fun m => nt (List.mem_singleton.mp m)
  unfold collect
  refine wpAny_bind (wpAny_runValue (codeAny_builtin F.entry_proto_collect ?_))
  rw [Around.under_plainId F.plain_proto_collect _]
  generalize hS : s.heap.objs.size = S at nI nt nf
  show wpAny _ A.in1 (newList [] >>= fun l' => again (.builtin "list.__iadd__" ⟨[l', .ref I], []⟩)) _ _ s
  refine wpAny_bind (wpAny_newObj_type (wpAny_pure ⟨plainId_quiet F.plain_list_iadd _, codeAny_builtin F.entry_list_iadd ?_⟩))
  rw [Around.under_plainId F.plain_list_iadd _, hS]
  have g1 : (s.heap.push { cls := .type "list", data := .seq ([] : List Value).toArray }).get? S = some { cls := .type "list", data := .seq ([] : List Value).toArray } := hS ▸ Heap.get?_push_size _ rfl
  have k1 : ∀ b o, s.heap.get? b = some o → (s.heap.push { cls := .type "list", data := .seq ([] : List Value).toArray }).get? b = some o := fun b o e => Heap.get?_push_of_some _ e
  have p1 : IsRt (s.heap.push { cls := .type "list", data := .seq ([] : List Value).toArray }) I t ((xs.size : Int) - 1) := p.at fun o e => k1 I o e
  have t1 : IsTup (s.heap.push { cls := .type "list", data := .seq ([] : List Value).toArray }) t xs := ht.keeps k1
  show wpAny _ A.in1 (Builtin.List.listExtendWith (.ref S) (.ref I) (.ref S)) _ _ _
  generalize s.heap.push { cls := .type "list", data := .seq ([] : List Value).toArray } = h1 at g1 k1 p1 t1
  have T1 : ({ s with heap := h1 } : Shared).TypeIs (.ref I) "reversed" := IsRt.typeIs (s := { s with heap := h1 }) p1
  unfold Builtin.List.listExtendWith
  have e1 : Builtin.List.listSameRef (.ref S) (.ref I) = false := beq_eq_false_iff_ne.mpr nI
  refine wpAny_bind (wpAny_typeOf T1 ?_)
  rw [if_neg (by rw [e1]; decide)]
  refine wpAny_bind (iter_rt (s := { s with heap := h1 }) p1 ?_)
  refine wpAny_bind (wpAny_holding ?_)
  unfold Builtin.List.listLengthHint
  refine wpAny_bind (wpAny_specialOf T1 no_len ?_)
  show wpAny _ A.in1 (specialOf (Value.ref I) (Str.ofString "__length_hint__") >>= _) _ _ _
  refine wpAny_bind (wpAny_specialOf T1 slot_hint.lookup ?_)
  generalize hi : ("reversed.__length_hint__" : String) = id0
  wp_delta
  rw [show splitId id0 = some ("reversed", "__length_hint__") from by subst hi; decide +kernel]
  subst hi
  refine wpAny_bind (wpAny_isInstance (b := true) T1 (by rw [isSubtype_type]; kernel_rfl) ?_)
  rw [if_neg (by decide)]
  show wpAny _ A.in1 (if _ then _ else _) _ _ _
  rw [if_neg (by decide +kernel)]
  refine wpAny_bind (wpAny_rule ?_)
  rw [slot_hint.bind]
  refine wpAny_bind (wpAny_pure (wpAny_bind (wpAny_attempt (hint (s := { s with heap := h1 }) p1 t1 hz fun k => ?_))))
  show wpAny _ A.in1 (asInt? (.int xs.size k) >>= _) _ _ _
  refine int_bind ?_
  have f1 : Builtin.List.listFitsIndex ((xs.size : Nat) : Int) = true := by
    have := line63
    unfold Builtin.List.listFitsIndex
    rw [Bool.and_eq_true, decide_eq_true_eq, decide_eq_true_eq]
    exact ⟨by omega, by omega⟩
  have f2 : Builtin.List.listTooLong ((xs.size : Nat) : Int).toNat = false := decide_eq_false (by rw [Int.toNat_natCast]; omega)
  dsimp only
  rw [f1, if_neg (by decide), if_neg (by omega), f2, if_neg (by decide)]
  have st : ∀ h2 : Heap, (∀ b o, b ≠ S → h1.get? b = some o → h2.get? b = some o) → 0 ≤ xs.size ∧ IsRt h2 I t ((xs.size : Int) - 1 - ((0 : Nat) : Int)) ∧ IsTup h2 t xs := fun h2 k => by
    refine ⟨Nat.zero_le _, ?_, ?_⟩
    · rw [show (xs.size : Int) - 1 - ((0 : Nat) : Int) = (xs.size : Int) - 1 by omega]
      exact p1.at fun o e => k I o (Ne.symm nI) e
    · obtain ⟨o, ho, r⟩ := t1
      exact ⟨o, k t o (Ne.symm nt) ho, r⟩
  have fin : ∀ (h2 : Heap) (tk : Nat) (s' : Shared) (acc : Array Value) (c : Nat), (∀ b o, b ≠ S → h1.get? b = some o → h2.get? b = some o) → Moved [S, I] (fun a b => b = a) { s with heap := h2, toks := tk } s' →
      s'.heap.get? S = some { cls := .type "list", dict := none, data := .seq acc c, slots := #[] } → ItemsOf (fun i v => xs[xs.size - 1 - i]? = some v) acc xs.size →
      wpAny (model prog w) A (load S >>= fun o => match o.data with
        | .seq xs _ => pure xs.toList
        | _ => unsupported "internal:collect") Q E s' := by
    intro h2 tk s' acc c k hm g hi
    refine wpAny_bind (wpAny_load g (wpAny_pure ?_))
    rw [Moved.eq_with hm]
    refine hQ _ _ acc (fun b o hb e => hm.heap b o (fun m => ?_) (k b o (fun z => ?_) (k1 b o e))) hi
    · rcases List.mem_cons.mp m with z | m
      · exact absurd (Heap.lt_size e) (by rw [hS, z]; exact Nat.lt_irrefl _)
      · exact hb (List.mem_singleton.mp m)
    · exact absurd (Heap.lt_size e) (by rw [hS, z]; exact Nat.lt_irrefl _)
  refine wpAny_pure ?_
  by_cases h0 : xs.size = 0
  · rw [if_neg (by rw [h0]; decide +kernel)]
    exact wpAny_pure ⟨plainId_quiet F.plain_extend_loop _, codeAny_extend_loopS W hz S nf _ xs.size 0 _ _ _ rfl (Nat.zero_le _) (st h1 fun _ _ _ e => e) g1 (ItemsOf.nil _) fun s' acc c hm g hi => fin h1 _ s' acc c (fun _ _ _ e => e) hm g hi⟩
  · rw [if_pos (by rw [show ((xs.size : Int) != 0) = true from by simp [h0]]; rfl)]
    refine wpAny_bind (wpAny_rule (wpAny_bind ?_))
    show wpAny _ A.in1 (updateSeq S (·.push .none) >>= fun _ => updateSeq S (·.pop)) _ _ _
    have z1 : 1 ≤ sizeLine := by have := line63; omega
    refine wpAny_bind (wpAny_updateSeq g1 rfl ?_ (Nat.zero_le _) (Nat.succ_le_succ (Nat.zero_le _)))
    have g2 := Heap.get?_update_self (Obj.mapSeq (·.push Value.none)) g1 rfl
    refine wpAny_updateSeq g2 rfl ?_ z1 (Nat.zero_le _)
    have g3 := Heap.get?_update_self (Obj.mapSeq (·.pop)) g2 rfl
    have k3 : ∀ b o, b ≠ S → h1.get? b = some o → ((h1.update S (Obj.mapSeq (·.push Value.none))).update S (Obj.mapSeq (·.pop))).get? b = some o := fun b o hb e => by
      rw [Heap.get?_update_other _ _ (Ne.symm hb), Heap.get?_update_other _ _ (Ne.symm hb)]
      exact e
    exact wpAny_pure ⟨plainId_quiet F.plain_extend_loop _, codeAny_extend_loopS W hz S nf _ xs.size 0 _ _ _ rfl (Nat.zero_le _) (st _ k3) g3 (ItemsOf.nil _) fun s' acc c hm g hi => fin _ _ s' acc c k3 hm g hi⟩
/-- tuple(it) -/
theorem code {Q₁ : Value → Shared → Prop} (hh : A.handled = none) (p : IsRt s.heap I t ((xs.size : Int) - 1)) (ht : IsTup s.heap t xs) (hne : t ≠ I) (hz : xs.size ≤ sizeLine)
    (h : ∀ (h' : Heap) (tk : Nat) (acc : Array Value), (∀ b o, b ≠ I → s.heap.get? b = some o → h'.get? b = some o) → ItemsOf (fun i v => xs[xs.size - 1 - i]? = some v) acc xs.size →
      Q₁ (.ref h'.objs.size) { s with heap := h'.push { cls := .type "tuple", data := .seq acc }, toks := tk }) :
    codeAny (model prog w) A (.call (.builtin "tuple.__new__") ⟨[.type "tuple", .ref I], []⟩) (wants Q₁ E) s := by
  refine codeAny_of_tree ?_
  show wpAny _ A.in1 (checkBuiltinCall "tuple.__new__" ⟨[.type "tuple", .ref I], []⟩ >>= fun _ => again (.builtin "tuple.__new__" ⟨[.type "tuple", .ref I], []⟩)) _ _ s
  refine wpAny_bind (wpAny_of_eq (F.newCall_tuple_1 _) (wpAny_pure ⟨plainId_quiet F.plain_tuple_new _, codeAny_builtin F.entry_tuple_new ?_⟩))
  rw [Around.under_plainId F.plain_tuple_new _]
  have sub := sub_tuple_self
  have ini := init_tuple_lookup
  have mad := madeHere_tuple
  have T : s.TypeIs (.ref I) "reversed" := p.typeIs
  have h0 : A.in1.handled = none := hh
  wp_walk using wpAny_typeOf T, coll (A := A.in1) h0 p ht hne hz
  intro h' tk acc k hi
  show wpAny _ _ (Builtin.Tuple.tupleExact acc.toList.toArray >>= fun v => ret v) _ _ _
  rw [show acc.toList.toArray = acc by simp]
  unfold Builtin.Tuple.tupleExact
  exact wpAny_bind (wpAny_newObj_type (wpAny_pure (h h' tk acc k hi)) (show acc.size ≤ sizeLine from hi.1.symm ▸ hz))
theorem call {Q : Value → Shared → Prop} (hh : A.handled = none) (p : IsRt s.heap I t ((xs.size : Int) - 1)) (ht : IsTup s.heap t xs) (hne : t ≠ I) (hz : xs.size ≤ sizeLine)
    (hQ : ∀ (h' : Heap) (tk : Nat) (acc : Array Value), (∀ b o, b ≠ I → s.heap.get? b = some o → h'.get? b = some o) → ItemsOf (fun i v => xs[xs.size - 1 - i]? = some v) acc xs.size →
      Q (.ref h'.objs.size) { s with heap := h'.push { cls := .type "tuple", data := .seq acc }, toks := tk }) : wpAny (model prog w) A (PySem.call (.type "tuple") [.ref I]) Q E s := by
  refine callType_codes (Q₁ := fun obj s₁ => s₁.TypeIs obj "tuple" ∧ Q obj s₁) F.called_tuple (F.typeCall_tuple_1 _) F.entry_object_init (code (A := A.in1) hh p ht hne hz fun h' tk acc k hi => ⟨⟨_, Heap.get?_push_size _ rfl, rfl⟩, hQ h' tk acc k hi⟩) ?_
  rintro obj s₁ ⟨h1, h2⟩
  exact ⟨h1, F.args_object_init_2 obj _, object_init_meets F.called_tuple.init.lookup F.called_tuple.made (by decide) prog w A.in1 _ s₁ ⟨h1, rfl, h2⟩⟩
end
/-! ## the rule -/
/-- tuple(reversed(x)), x a tuple: a new tuple -/
def tTupRevT (K : PySem.W.Frag) (te : TE) : TE := fun σ H Q => te σ H fun v H1 => ∃ (a : Addr) (xs : List V), v = .ref a ∧ SqT K H1 a xs ∧ ∀ q, H1 q = none → Q (.ref q) (upd H1 q (.tup xs.reverse))
section
variable {X : Cx}
theorem pe_tupRevT {e : Expr} {te : TE} {p p2 pos pos2 : Pos} (hc : X.calm = true) (hg : Gl X "tuple") (hm : X.mg "tuple" = none) (hg2 : Gl X "reversed") (hm2 : X.mg "reversed" = none) (he : PE X e te)
    (hs : starEach [e] X.env = (false, eval e X.env) :: starEach [] X.env := by rfl)
    (hs2 : starEach [.Call (.Name "reversed" p2) [e] [] pos2] X.env = (false, eval (.Call (.Name "reversed" p2) [e] [] pos2) X.env) :: starEach [] X.env := by rfl) :
    PE X (.Call (.Name "tuple" p) [.Call (.Name "reversed" p2) [e] [] pos2] [] pos) (tTupRevT X.K te) := by
  refine ⟨fun pins s σ H Q I h => ?_⟩
  refine Call_ (ld_blt I hg hm boot_tuple (PyProof.Rows.callWith_type1 (args_cons (Call_ (ld_blt I hg2 hm2 PyProof.Rows.boot_reversed (PyProof.Rows.callWith_type1 (args_cons (thn (he.run pins s σ H _ I h) fun u s1 ⟨v, H1, I1, r1, q1⟩ => args_nil ?_) hs) hs rfl))) hs2) hs2 rfl))
  obtain ⟨a, xs, rfl, hq, q⟩ := q1
  obtain rfl : u = Value.ref a := r1
  obtain ⟨its, rv, t, hz⟩ := I1.tuple hq
  have hl := rv.length
  have hn : its.toArray.size ≤ sizeLine := by rw [List.size_toArray, ← hl]; exact hz
  refine call_reversed_tup t (fun A E Q k => len_tuple t (by have := line63; omega) k) (args_nil ?_)
  have k0 : ∀ b o, s1.heap.get? b = some o → (s1.heap.push (rtObj a ((its.toArray.size : Int) - 1))).get? b = some o := fun b o e => Heap.get?_push_of_some _ e
  have I2 : Inv X pins σ H1 { s1 with heap := s1.heap.push (rtObj a ((its.toArray.size : Int) - 1)), toks := s1.toks + 1 + 1 } := I1.kept (t' := s1.toks + 1 + 1) k0
  obtain ⟨f0, f1, f2, f3, f4, f5⟩ := I1.fpOk (H' := H1) (b := s1.heap.objs.size) (Nat.le_refl _) (I1.hok.fresh (Nat.le_refl _))
  refine call (s := { s1 with heap := s1.heap.push (rtObj a ((its.toArray.size : Int) - 1)), toks := s1.toks + 1 + 1 }) (I1.ok.hd hc) ⟨_, Heap.get?_push_size _ rfl, rfl, rfl⟩ (t.push _) (Nat.ne_of_lt t.lt) hn fun h' tk acc hk hi => ?_
  have I3 : Inv X pins σ H1 { s1 with heap := h', toks := tk } := I2.turned (t' := tk) (fun b o hb e => hk b o hb e) f0 f1 f3 f4 f5
  refine ⟨.ref h'.objs.size, upd H1 h'.objs.size (.tup xs.reverse), I3.laid (t' := tk) (fun c o e => Heap.get?_push_of_some _ e) (Nat.le_refl _) (show ObjOk X.prog X.w _ _ _ (.tup xs.reverse) from ⟨by rw [List.length_reverse]; exact hz, acc.toList, vals_rev rv hi, ?_⟩), rfl, q _ (I3.hok.fresh (Nat.le_refl _))⟩
  rw [Array.toArray_toList]
  exact IsTup.new _ _
end
end Rv

set_option Elab.async false
set_option linter.all false
set_option maxRecDepth 100000
set_option maxHeartbeats 2000000
namespace Hd
open PySem PySem.Spec PyProof.Rows L2 Ru
section
variable {K : PySem.W.Frag} {h : Heap} {mg : Str → Option Value}
theorem g_of (X : K.In h) (G : h.Ns mainGlobals mg) {x : Str} {a : Addr} (c : gB K x a = true) : mg x = some (.ref a) := PySem.W.mg_of X G (He.eqO_ok c)
theorem no_of (X : K.In h) (G : h.Ns mainGlobals mg) {x : Str} (c : noB K x = true) : mg x = none := PySem.W.mg_none_of X G (He.eqO_ok c)
theorem con_of (X : K.In h) (G : h.Ns mainGlobals mg) {x : Str} {v : V} (c : conB K x v = true) : GlobC mg x v := by
  unfold conB at c
  split at c
  · rename_i u e
    exact globC_mk X G e (He.relB_ok c)
  · cases c
theorem tup_of (X : K.In h) (G : h.Ns mainGlobals mg) {x : Str} {vs : List V} (c : tupB K x vs = true) : GlobT K mg x vs := by
  unfold tupB at c
  split at c
  · rename_i a e
    split at c
    · rename_i k od its n sl q
      obtain ⟨c1, c⟩ := two c
      obtain ⟨c2, c3⟩ := two c
      have ek := of_decide_eq_true c1
      subst ek
      exact globT_mk X G e q (of_decide_eq_true c2) (He.relAll_ok c3)
    · cases c
  · cases c
theorem cls_of (X : K.In h) (G : h.Ns mainGlobals mg) {x : Str} {C : Addr} (c : clsB K x C = true) : ClsAt K mg x C := by
  obtain ⟨a, c⟩ := two c
  obtain ⟨b, c⟩ := two c
  obtain ⟨d, c⟩ := two c
  obtain ⟨e, c⟩ := two c
  obtain ⟨f, c⟩ := two c
  obtain ⟨i, c⟩ := two c
  obtain ⟨j, c⟩ := two c
  obtain ⟨k, c⟩ := two c
  obtain ⟨l, c⟩ := two c
  obtain ⟨m, n⟩ := two c
  exact clsAt_mk X G (He.eqO_ok a) b d e (He.eqO_ok f) (He.eqO_ok i) (He.eqO_ok j) (of_decide_eq_true k) (of_decide_eq_true l) m n
theorem err_of (X : K.In h) (G : h.Ns mainGlobals mg) {x : Str} {C : Addr} (c : errB K x C = true) : ErrAt K mg x C := by
  obtain ⟨a, c⟩ := two c
  obtain ⟨b, c⟩ := two c
  obtain ⟨d, e⟩ := two c
  exact errAt_mk X G (He.eqO_ok a) (of_decide_eq_true b) (of_decide_eq_true d) e
theorem exc_of (X : K.In h) (G : h.Ns mainGlobals mg) {x : Str} {C L : Addr} (c : excB K x C L = true) : ExcAt K mg x C L := by
  obtain ⟨a, c⟩ := two c
  obtain ⟨b, c⟩ := two c
  obtain ⟨d, c⟩ := two c
  obtain ⟨e, c⟩ := two c
  obtain ⟨f, c⟩ := two c
  obtain ⟨i, c⟩ := two c
  obtain ⟨j, c⟩ := two c
  obtain ⟨k, c⟩ := two c
  obtain ⟨l, c⟩ := two c
  obtain ⟨m, c⟩ := two c
  obtain ⟨n, c⟩ := two c
  obtain ⟨o, p⟩ := two c
  unfold mroB at p
  split at p
  · rename_i cd q
    exact excAt_mk X G (He.eqO_ok a) b d (He.eqO_ok e) (He.eqO_ok f) (of_decide_eq_true i) j (He.eqO_ok k) (He.eqO_ok l) (of_decide_eq_true m) (of_decide_eq_true n) (of_decide_eq_true o) q (of_decide_eq_true p)
  · cases p
theorem na_of {C : Addr} {x : Str} (c : naB K C x = true) : NoAttr K C x := He.eqO_ok c
theorem one_of {a b : Addr} {r : Bool} (c : oneB K a b r = true) : PySem.W.kitOne K (.ref a) (.ref b) = some r := of_decide_eq_true c
/-! ## defs -/
theorem def_of (X : K.In h) (G : h.Ns mainGlobals mg) {x : Str} {st : Stmt} {ps : List Str} {f : Addr} (c : gB K x f = true) (F : ∃ fd, FunD K x x (defArgs st) (defBody st) (defScope st) [] [] f fd)
    (b : ∀ (kV doc pm : Value) (an : Option Addr) (cdv ct : Value) (us : List Value), us.length = ps.length → bindArgs (PySem.W.fnOf x x (defArgs st) (defBody st) (defScope st) .none kV doc pm an cdv ct) ⟨us, []⟩ = pure (ps.zip us)) : DefAt K mg x st ps := by
  obtain ⟨fd, F⟩ := F
  obtain ⟨⟨oc, od, kV, doc, pm, an, cdv, ct, osl, e, l, k⟩, kp⟩ := He5.fun_of F
  subst e
  exact defAt_mk X G (He.eqO_ok c) l k kp (b kV doc pm an cdv ct)
theorem law_of (X : K.In h) (G : h.Ns mainGlobals mg) {st : Stmt} {p : Str} {f : Addr} (c : gB K "law" f = true) (F : ∃ fd, FunD K "law" "law" (defArgs st) (defBody st) (defScope st) [] [] f fd)
    (b : ∀ (kV doc pm : Value) (an : Option Addr) (cdv ct : Value) (u : Value), bindArgs (PySem.W.fnOf "law" "law" (defArgs st) (defBody st) (defScope st) .none kV doc pm an cdv ct) ⟨[u], []⟩ = pure [(p, u)]) : LawAt K mg st p := by
  obtain ⟨fd, F⟩ := F
  obtain ⟨⟨oc, od, kV, doc, pm, an, cdv, ct, osl, e, l, k⟩, kp⟩ := He5.fun_of F
  subst e
  exact lawAt_mk X G (He.eqO_ok c) l k kp (b kV doc pm an cdv ct)
theorem met_of {C : Addr} {m qual : Str} {st : Stmt} {ps : List Str} (c : metB K C m = true) (F : ∃ fd, FunD K m qual (defArgs st) (defBody st) (defScope st) [] [] (He.ma K C m) fd)
    (b : ∀ (kV doc pm : Value) (an : Option Addr) (cdv ct : Value) (us : List Value), us.length = ps.length → bindArgs (PySem.W.fnOf m qual (defArgs st) (defBody st) (defScope st) .none kV doc pm an cdv ct) ⟨us, []⟩ = pure (ps.zip us)) : MethAt K C m qual st ps := by
  obtain ⟨fd, F⟩ := F
  obtain ⟨c1, c⟩ := two c
  obtain ⟨c2, c3⟩ := two c
  obtain ⟨⟨oc, od, kV, doc, pm, an, cdv, ct, osl, e, l, k⟩, kp⟩ := He5.fun_of F
  subst e
  exact methAt_mk (He.eqO_ok c1) c2 l k kp (b kV doc pm an cdv ct)
theorem cfn_of {C : Addr} {m qual : Str} {st : Stmt} {ps : List Str} (c : cfnB K C m = true) (F : ∃ fd, FunD K m qual (defArgs st) (defBody st) (defScope st) [] [] (ca K C m) fd)
    (b : ∀ (kV doc pm : Value) (an : Option Addr) (cdv ct : Value) (us : List Value), us.length = ps.length → bindArgs (PySem.W.fnOf m qual (defArgs st) (defBody st) (defScope st) .none kV doc pm an cdv ct) ⟨us, []⟩ = pure (ps.zip us)) : ClsFnAt K C m qual st ps := by
  obtain ⟨fd, F⟩ := F
  obtain ⟨c1, c⟩ := two c
  obtain ⟨c2, c3⟩ := two c
  obtain ⟨⟨oc, od, kV, doc, pm, an, cdv, ct, osl, e, l, k⟩, kp⟩ := He5.fun_of F
  subst e
  refine clsFnAt_mk c1 (He.eqO_ok c2) ?_ l k kp (b kV doc pm an cdv ct)
  unfold ca
  split at c3
  · rename_i f q
    rw [q]
  · cases c3
end
/-! ## a law's end -/
theorem walk {l : PySem.W.OpenLaw} {q : Program} {loose : List Str} {XP : (Str → Option Value) → Heap → Prop} {d : DefRec} {n : List Addr} {k : Nat} {p : Str} {B : PySem.W.Frag → List Bool} {fn : List He5.DefA} (hr : Room k callerA) (hn : l.most = some 63) (hdf : d.params.defaults = []) (hd : d.name = ("law" : Str))
    (F : ∀ (w : World) (mg : Str → Option Value) (fa : Addr) (h : Heap) (K : PySem.W.Frag), K.In h → h.Ns mainGlobals mg → mg "law" = some (.ref fa) → Says B fn K →
      ∃ fd : FuncData, (∀ (s : Shared) (u : Value), BindsTo s fd ⟨[u], []⟩ [(p, u)]) ∧ ∀ base : Heap, K.In base → base.Ns mainGlobals mg → FnOk l.prog w K mg base CX0 k fa fd [p] (spLaw K)) :
    PySem.W.WalkO q loose XP (hook n B fn).says l.row.toRowW d [] (fun f vs => PySem.call f vs) :=
  L2.walk_ofE (n := 63) (CX := CX0) hn (by decide) hdf hr (fun w mg fa h Y G hmg => by
    obtain ⟨K, X, c⟩ := Y
    rw [hd] at hmg
    obtain ⟨fd, hb, ok⟩ := F w mg fa h K X G hmg c
    exact ⟨K, fd, spLaw K, X, hb, fun H a ns hl _ hS => ⟨a, ns, rfl, hS, hl, fun _ => rfl⟩, ok⟩) fun _ _ _ _ z => z
end Hd

set_option Elab.async false
set_option linter.all false
set_option maxRecDepth 100000
set_option maxHeartbeats 2000000
/-! the head's facts of defs with a default -/
namespace Hd
open PySem PySem.Spec PyProof.Rows L2 Ru
theorem defD_of {K : PySem.W.Frag} {h : Heap} {mg : Str → Option Value} (X : K.In h) (G : h.Ns mainGlobals mg) {x k : Str} {st : Stmt} {ps : List Str} {v : V} {f : Addr} (c : gB K x f = true) (F : ∃ fd, FunD K x x (defArgs st) (defBody st) (defScope st) [v] [] f fd) (hp : 0 < ps.length)
    (hf : ∀ (T : Addr) (kV doc pm : Value) (an : Option Addr) (cdv ct : Value) (us its : List Value), us.length = ps.length → its.length = 1 → ∃ r, bindArgs (PySem.W.fnOf x x (defArgs st) (defBody st) (defScope st) (.ref T) kV doc pm an cdv ct) ⟨us, []⟩ = seqItems? (.ref T) >>= r ∧ r (some its.toArray) = pure (ps.zip (us ++ its.drop 1)))
    (h1 : ∀ (T : Addr) (kV doc pm : Value) (an : Option Addr) (cdv ct : Value) (us its : List Value), us.length = ps.length - 1 → its.length = 1 → ∃ r, bindArgs (PySem.W.fnOf x x (defArgs st) (defBody st) (defScope st) (.ref T) kV doc pm an cdv ct) ⟨us, []⟩ = seqItems? (.ref T) >>= r ∧ r (some its.toArray) = pure (ps.zip (us ++ its.drop 0)))
    (hk : ∀ (T : Addr) (kV doc pm : Value) (an : Option Addr) (cdv ct : Value) (us its ws : List Value), us.length = ps.length - 1 → its.length = 1 → ws.length = 1 → ∃ r, bindArgs (PySem.W.fnOf x x (defArgs st) (defBody st) (defScope st) (.ref T) kV doc pm an cdv ct) ⟨us, [k].zip ws⟩ = seqItems? (.ref T) >>= r ∧ r (some its.toArray) = pure (ps.zip (us ++ ws))) :
    DefAtD K mg x st ps k v := by
  obtain ⟨fd, F⟩ := F
  exact defAtD_mk (g_of X G c) F hp hf h1 hk
/-- a def, with its defaults -/
def dAD (at_ : PySem.W.Frag → Addr) (name qual : Str) (st : Stmt) (dfl : List He.Dv) : He5.DefA := ⟨at_, name, qual, defArgs st, defBody st, defScope st, dfl, []⟩
end Hd

set_option Elab.async false
set_option linter.all false
set_option maxRecDepth 100000
set_option maxHeartbeats 2000000
section
open PySem L2 Ru
local macro_rules | `(tactic| walk_at "rd") => `(tactic| try simp only [tSeq, tAsg, gName, tVar, tC, tOp, rI, rI0, tRet, tDrop, tIfS, tTest, tB, tAndV, tOrV, tNotV, tAnd, tOr, tNot, tIf, tCall, tCons, tNil, tCB, tAug, rEq, rNe, tNext, tRetN, L2.start, List.map_cons, List.map_nil, List.length_cons, List.length_nil, List.replicate, List.cons_append, List.nil_append, List.append_nil, List.getElem?_cons_zero, List.getElem?_cons_succ, List.set_cons_zero, List.set_cons_succ, Option.some.injEq, V.int.injEq, V.str.injEq, V.bl.injEq, V.ref.injEq, List.cons.injEq, exists_eq_left, exists_eq_left', exists_eq_right, exists_and_left, exists_const, true_and, and_true, CDiv, CMul, Int.reduceLT, Int.reduceLE, Int.reducePow, Int.reduceNeg, true_or, or_true, wipe, gcons_eq, gnil_eq, cxOf_K, tSl, rSlS, tLst, tTup, rIsF, isBlV, isIntV, flat_s, flat_i, flat_b, flat_n, rIsB, rNotB, tPart, tNoPart, rIxS, reduceCtorEq, false_and, and_false, false_or, or_false, scal_ii, scal_bb, scal_ss, scal_sb, scal_bs, decide_true, decide_false, if_true, if_false, Bool.false_eq_true, Bool.not_true, Bool.not_false, ite_true, ite_false])

namespace My
theorem z_set : True := trivial
def top (i : Nat) : Stmt := PySem.Challenge.pw_rungworks_k55_whole_states_told.main.body.getD i (.Pass ⟨0, 0, 0, 0⟩)
/-! ## names -/
def isLow (c : Nat) : Bool := decide (97 ≤ c ∧ c ≤ 122)
def isWord (z : Str) : Bool := z.cps.toList.all isLow && !z.cps.toList.isEmpty
abbrev sSIGNS : Str := "abcdefghijklmnopqrstuvwxyz"
def keptL : List Str := ["on", "off", "and", "or", "not", "set", "reset", "timer", "counter", "inputs", "outputs"]
def keptV : List V := keptL.map V.str
def isName (z : Str) : Bool := isWord z && decide (z.length ≤ 8) && !decide (z ∈ keptL)
theorem signs_cps : sSIGNS.cps.toList = (List.range 26).map (· + 97) := by decide +kernel
theorem mem_signs {c : Nat} : c ∈ sSIGNS.cps.toList ↔ isLow c = true := by
  rw [signs_cps, List.mem_map]
  unfold isLow
  rw [decide_eq_true_eq]
  constructor
  · rintro ⟨a, h, rfl⟩
    rw [List.mem_range] at h
    omega
  · intro h
    exact ⟨c - 97, List.mem_range.mpr (by omega), by omega⟩
theorem dec_signs {c : Nat} : decide (c ∈ sSIGNS.cps.toList) = isLow c := by
  rw [Bool.eq_iff_iff, decide_eq_true_eq]
  exact mem_signs
theorem inV_strs (z : Str) : ∀ l : List Str, inV (.str z) (l.map V.str) = decide (z ∈ l)
  | [] => by simp [inV]
  | x :: l => by
    have ih := inV_strs z l
    unfold inV at ih ⊢
    rw [List.map_cons, List.any_cons, ih]
    rw [Bool.eq_iff_iff]
    simp [eqV]
    constructor
    · rintro (h | h)
      · exact .inl h.symm
      · exact .inr h
    · rintro (h | h)
      · exact .inl h.symm
      · exact .inr h
theorem flat_strs : ∀ l : List Str, (l.map V.str).all flatV = true
  | [] => rfl
  | x :: l => by rw [List.map_cons, List.all_cons, flat_strs l]; rfl
theorem isWord_ne {z : Str} : (z ≠ ("" : Str)) ↔ z.cps.toList.isEmpty = false := by
  obtain ⟨a⟩ := z
  have e : ("" : Str) = ⟨#[]⟩ := by decide +kernel
  rw [e]
  cases h : a.toList with
  | nil =>
    have : a = #[] := by
      apply Array.ext'
      rw [h]
    subst this
    simp
  | cons x r =>
    refine ⟨fun _ => rfl, fun _ q => ?_⟩
    have q' : a = #[] := by injection q
    subst q'
    cases h
def spIsWord : Sp := fun vs H Q _ => ∃ z : Str, vs = [.str z] ∧ Q (.bl (isWord z)) H
def spIsName : Sp := fun vs H Q _ => ∃ z : Str, vs = [.str z] ∧ z.length ≤ sizeLine ∧ Q (.bl (isName z)) H
abbrev s_is_word : Stmt := top 14
theorem sc_is_word : FnScope ["text", "sign"] ["text"] (defScope s_is_word) := ⟨rfl, rfl, rfl, by decide +kernel, rfl, by decide +kernel, by decide +kernel⟩
abbrev s_is_name : Stmt := top 15
theorem sc_is_name : FnScope ["name"] ["name"] (defScope s_is_name) := ⟨rfl, rfl, rfl, by decide +kernel, rfl, by decide +kernel, by decide +kernel⟩
structure TNames (K : PySem.W.Frag) (mg : Str → Option Value) : Prop where
  d_is_word : DefAt K mg "is_word" s_is_word ["text"]
  d_is_name : DefAt K mg "is_name" s_is_name ["name"]
  g_SIGNS : GlobC mg "SIGNS" (.str sSIGNS)
  g_MOST_SIGNS : GlobC mg "MOST_SIGNS" (.int 8)
  g_KEPT : GlobT K mg "KEPT" keptV
  z_len : mg "len" = none
section
variable {P : Program} {w : World} {K : PySem.W.Frag} {mg : Str → Option Value} {base : Heap}
theorem ok_is_word (T : TNames K mg) : FnAt P w K mg base CX0 "is_word" 1 ["text"] spIsWord := by
  refine fnAt_ok T.d_is_word sc_is_word (fun vs H Q E h => ?_) (fun f cdv A outer s H vs Q E hr h => ?_)
  · obtain ⟨z, rfl, _⟩ := h; rfl
  · obtain ⟨z, rfl, k⟩ := h
    refine ⟨_, (pss_cons (ps_for PassesOwn.never rfl (pi_str (pv 0)) (pg_name (i := 1) sc_is_word.nd rfl (by first | exact Or.inl rfl | exact Or.inr rfl)) (pss_one (ps_if (pt_cmpR op_notIn_sign (pv 1) (pe_gc T.g_SIGNS) rfl) (pss_one (ps_ret pe_bl)) pss_nil)))
        (pss_one (ps_ret (pe_cmpR op_ne (pv 0) pe_str (nomark _))))), ?_⟩
    refine ⟨_, rfl, z, rfl, for_str (x := z) (fun i σ H' => ∃ v, σ = [some (.str z), v] ∧ H' = H ∧ (z.cps.toList.take i).all isLow = true) ⟨none, rfl, rfl, rfl⟩ ?_ ?_⟩
    · rintro i c σ H' hi ⟨v, rfl, rfl, hp⟩
      have hi' : z.cps.toList[i]? = some c := by simpa using hi
      walk_at "rd"
      refine ⟨c, rfl, ?_⟩
      rw [dec_signs]
      by_cases hc : isLow c = true
      · rw [hc]
        simp only [Bool.not_true, Bool.false_eq_true, if_false]
        rw [List.take_succ, hi', List.all_append, hp]
        simp [hc]
      · have hc' : isLow c = false := by simpa using hc
        rw [hc']
        refine iteT ?_
        have e : isWord z = false := by
          unfold isWord
          rw [Bool.and_eq_false_iff]
          left
          rw [List.all_eq_false]
          exact ⟨c, List.mem_of_getElem? hi', by simp [hc']⟩
        rw [e] at k
        exact k
    · rintro σ H' ⟨v, rfl, rfl, hp⟩
      walk_at "rd"
      have e : (!decide (z = "")) = isWord z := by
        unfold isWord
        have hp' : z.cps.toList.all isLow = true := by
          have : z.cps.toList.take z.cps.size = z.cps.toList := by
            rw [List.take_of_length_le]
            simp
          rw [this] at hp
          exact hp
        rw [hp', Bool.true_and, Bool.eq_iff_iff]
        simp only [Bool.not_eq_true', decide_eq_false_iff_not]
        exact isWord_ne
      rw [e]
      exact k
theorem ok_is_name (T : TNames K mg) : FnAt P w K mg base CX0 "is_name" 2 ["name"] spIsName := by
  have G_is_word : FnAt P w K mg base CX0 "is_word" 1 _ spIsWord := ok_is_word T
  refine fnAt_ok T.d_is_name sc_is_name (fun vs H Q E h => ?_) (fun f cdv A outer s H vs Q E hr h => ?_)
  · obtain ⟨z, rfl, _⟩ := h; rfl
  · obtain ⟨z, rfl, hz, k⟩ := h
    refine ⟨_, (pss_one (ps_ret (pe_and (pe_callF G_is_word hr pass0 (pa_cons (pv 0) pa_nil)) (pe_and (pe_cmpR op_le (pe_callB call_len_str (by rfl) T.z_len PySem.boot_len (pa_cons (pv 0) pa_nil)) (pe_gc T.g_MOST_SIGNS) (nomark _)) (pe_one (pe_cmp (pc_notInK T.g_KEPT (pv 0)))))))), ?_⟩
    walk_at "rd"
    refine ⟨z, rfl, ?_⟩
    unfold isName at k
    cases hw : isWord z with
    | false =>
      rw [hw] at k
      exact ⟨false, rfl, iteF k⟩
    | true =>
      rw [hw] at k
      refine ⟨true, rfl, iteT ⟨hz, ?_⟩⟩
      by_cases hl : z.length ≤ 8
      · have hl' : ((z.length : Nat) : Int) ≤ 8 := by omega
        rw [decide_eq_true hl']
        refine iteT ⟨flat_strs _, ?_⟩
        unfold keptV
        rw [inV_strs]
        rw [decide_eq_true hl] at k
        exact k
      · have hl' : ¬ ((z.length : Nat) : Int) ≤ 8 := by omega
        rw [decide_eq_false hl']
        rw [decide_eq_false hl] at k
        exact iteF k
end

/-! ## cells, mixed at once -/
def cellAt (ns : List Int) (k : Int) : Int := ns.getD k.toNat 0
def mixed (c k : Int) : Int := (((c + 7919 * k + 11) * 48271 % 2147483647) * ((c + 7919 * k + 11) * 48271 % 2147483647) + 40692 * ((c + 7919 * k + 11) * 48271 % 2147483647)) % 2147483399
theorem mixed_nn (c k : Int) : 0 ≤ mixed c k := Int.emod_nonneg _ (by decide)
theorem mixed_lt (c k : Int) : mixed c k < 2147483399 := Int.emod_lt_of_pos _ (by decide)
theorem letters_at {j : Int} (h0 : 0 ≤ j) (h1 : j < 26) : atI (("abcdefghijklmnopqrstuvwxyz" : Str)).cps.toList j = some (97 + j.toNat) := by
  have e : ("abcdefghijklmnopqrstuvwxyz" : Str).cps.toList = (List.range 26).map (97 + ·) := by decide +kernel
  rw [e]
  refine atI_int h0 ?_
  rw [List.getElem?_map, List.getElem?_range (by omega)]
  rfl
/-- a drawn number: it is not below 0 -/
def spCellAt (K : PySem.W.Frag) : Sp := fun vs H Q _ => ∃ (a : Addr) (ns : List Int) (k : Int), vs = [.ref a, .int k] ∧ SqL K H a (ns.map V.int) ∧ 0 ≤ k ∧ ∀ c : Int, 0 ≤ c → c < 2147483399 → c = mixed (cellAt ns k) (300 + k) → Q (.int c) H
def spMixed : Sp := fun vs H Q _ => ∃ c k : Int, vs = [.int c, .int k] ∧ Q (.int (mixed c k)) H
abbrev s__law_cell_at : Stmt := top 68
theorem sc__law_cell_at : FnScope ["_law_script", "_law_k", "_law_cell"] ["_law_script", "_law_k"] (defScope s__law_cell_at) := ⟨rfl, rfl, rfl, by decide +kernel, rfl, by decide +kernel, by decide +kernel⟩
abbrev s__law_mixed : Stmt := top 69
theorem sc__law_mixed : FnScope ["_law_cell", "_law_k", "_law_mix"] ["_law_cell", "_law_k"] (defScope s__law_mixed) := ⟨rfl, rfl, rfl, by decide +kernel, rfl, by decide +kernel, by decide +kernel⟩
structure TCells (K : PySem.W.Frag) (mg : Str → Option Value) : Prop where
  d_cell_at : DefAt K mg "_law_cell_at" s__law_cell_at ["_law_script", "_law_k"]
  d_mixed : DefAt K mg "_law_mixed" s__law_mixed ["_law_cell", "_law_k"]
  z_len : mg "len" = none
section
variable {P : Program} {w : World} {K : PySem.W.Frag} {mg : Str → Option Value} {base : Heap}
theorem ok_mixed (T : TCells K mg) : FnAt P w K mg base CX0 "_law_mixed" 1 ["_law_cell", "_law_k"] spMixed := by
  refine fnAt_ok T.d_mixed sc__law_mixed (fun vs H Q E h => ?_) (fun f cdv A outer s H vs Q E hr h => ?_)
  · obtain ⟨c, k, rfl, _⟩ := h; rfl
  · obtain ⟨c, n, rfl, k⟩ := h
    refine ⟨_, (pss_cons (ps_set (i := 2) sc__law_mixed.nd rfl (by first | exact Or.inl rfl | exact Or.inr rfl) (pe_op op_mod (pe_op op_mul (pe_op op_add (pe_op op_add (pv 0) (pe_op op_mul pe_int (pv 1))) pe_int) pe_int) pe_int))
        (pss_one (ps_ret (pe_op op_mod (pe_op op_add (pe_op op_mul (pv 2) (pv 2)) (pe_op op_mul pe_int (pv 2))) pe_int)))), ?_⟩
    walk_at "rd"
    have h1 : 0 ≤ (c + 7919 * n + 11) * 48271 % 2147483647 := Int.emod_nonneg _ (by decide)
    have h2 : (c + 7919 * n + 11) * 48271 % 2147483647 < 2147483647 := Int.emod_lt_of_pos _ (by decide)
    exact ⟨.inl ⟨by omega, by omega⟩, k⟩
theorem ok_cell_at (T : TCells K mg) : FnAt P w K mg base CX0 "_law_cell_at" 2 ["_law_script", "_law_k"] (spCellAt K) := by
  have G__law_mixed : FnAt P w K mg base CX0 "_law_mixed" 1 _ spMixed := ok_mixed T
  refine fnAt_ok T.d_cell_at sc__law_cell_at (fun vs H Q E h => ?_) (fun f cdv A outer s H vs Q E hr h => ?_)
  · obtain ⟨a, ns, k, rfl, _⟩ := h; rfl
  · obtain ⟨a, ns, n, rfl, hs, h0, k⟩ := h
    refine ⟨_, (pss_cons (ps_set (i := 2) sc__law_cell_at.nd rfl (by first | exact Or.inl rfl | exact Or.inr rfl) pe_int)
        (C8.pss_cut (ps_if (pt_cmpR op_lt (pv 1) (pe_callB call_len_seq (by rfl) T.z_len PySem.boot_len (pa_cons (pv 0) pa_nil)) (nomark _)) (pss_one (ps_set (i := 2) sc__law_cell_at.nd rfl (by first | exact Or.inl rfl | exact Or.inr rfl) (pe_ix ix_list (pv 0) (pv 1) (fun _ _ => rfl)))) pss_nil)
        (pss_one (ps_ret (pe_callF G__law_mixed hr pass0 (pa_cons (pv 2) (pa_cons (pe_op op_add pe_int (pv 1)) pa_nil))))))), ?_⟩
    walk_at "rd"
    refine ⟨fun σ' H' => σ' = [some (.ref a), some (.int n), some (.int (cellAt ns n))] ∧ H' = H, ?_, ?_⟩
    · walk_at "rd"
      refine ⟨_, .inl hs, ?_⟩
      rw [List.length_map]
      unfold cellAt
      by_cases hl : n < (ns.length : Int)
      · rw [decide_eq_true hl]
        have hn : n.toNat < ns.length := by omega
        refine iteT ⟨a, _, _, .int ns[n.toNat], rfl, rfl, hs, ?_, ?_⟩
        · exact atI_int h0 (by rw [List.getElem?_map, List.getElem?_eq_getElem hn]; rfl)
        · rw [List.getD_eq_getElem?_getD, List.getElem?_eq_getElem hn]
          exact ⟨rfl, rfl⟩
      · rw [decide_eq_false hl]
        have hn : ns.length ≤ n.toNat := by omega
        refine iteF ?_
        rw [List.getD_eq_getElem?_getD, List.getElem?_eq_none hn]
        rfl
    rintro σ' H' ⟨rfl, rfl⟩
    walk_at "rd"
    exact ⟨_, _, rfl, k _ (mixed_nn _ _) (mixed_lt _ _) rfl⟩
end

--%% N1
/-! ## names unlike each other -/
abbrev s__law_names : Stmt := top 70
theorem sc__law_names : FnScope ["_law_cell", "_law_many", "_law_some", "_law_words", "_law_size", "_law_place", "_law_names_here", "_law_k", "_law_letter", "_law_word", "_law_at", "_law_some_words", "_law_turn"] ["_law_cell", "_law_many"] (defScope s__law_names) := ⟨rfl, rfl, rfl, by decide +kernel, rfl, by decide +kernel, by decide +kernel⟩
structure TNames2 (K : PySem.W.Frag) (mg : Str → Option Value) : Prop where
  cells : TCells K mg
  d_names : DefAt K mg "_law_names" s__law_names ["_law_cell", "_law_many"]
  z_range : mg "range" = none
  z_int : mg "int" = none
/-- names, none twice -/
structure NamesU (H : Hp) (p : Addr) (ns : List Str) (m : Nat) : Prop where
  at_ : H p = some (.lst (ns.map V.str))
  len : ns.length = m
  ok : ∀ n ∈ ns, isName n = true
  nd : ns.Nodup
def spNames : Sp := fun vs H Q _ => ∃ c m : Int, vs = [.int c, .int m] ∧ 0 ≤ c ∧ 0 ≤ m ∧ m ≤ 24 ∧ ∀ (H' : Hp) (p : Addr) (ns : List Str), Same H H' → H p = none → NamesU H' p ns m.toNat → Q (.ref p) H'
/-- the word that is tried at a turn -/
def cand (j t : Nat) : Str := mkS [122, 97 + t % 26, 97 + (j + t) % 26]
theorem cand_word (j t : Nat) : isWord (cand j t) = true ∧ (cand j t).length ≤ 8 := by
  have h1 := Nat.mod_lt t (show 0 < 26 by decide)
  have h2 := Nat.mod_lt (j + t) (show 0 < 26 by decide)
  refine ⟨?_, by simp [cand, mkS_len]⟩
  unfold isWord cand
  rw [tl_mkS]
  simp [isLow]
  omega
theorem kept_z : ∀ z ∈ keptL, z.cps.toList.head? ≠ some 122 := by decide +kernel
theorem cand_free (j t : Nat) : cand j t ∉ keptL := fun h => kept_z _ h (by unfold cand; rw [tl_mkS]; rfl)
theorem cand_ne {j a b : Nat} (h : a < b) (hb : b < 26) : cand j a ≠ cand j b := fun e => by
  have := mkS_inj e
  simp at this
  omega
/-- so many unlike things stand in a list that is at least as long -/
theorem pigeons (f : Nat → Str) : ∀ (t : Nat) (L : List Str), (∀ i, i < t → f i ∈ L) → (∀ i k, i < k → k < t → f i ≠ f k) → t ≤ L.length
  | 0, _, _, _ => Nat.zero_le _
  | t + 1, L, h, d => by
    have h1 := h t (Nat.lt_succ_self t)
    have h2 := pigeons f t (L.erase (f t)) (fun i hi => (List.mem_erase_of_ne (d i t hi (Nat.lt_succ_self t))).mpr (h i (by omega))) fun i k a b => d i k a (by omega)
    have h3 := List.length_erase_of_mem h1
    have h4 := List.length_pos_of_mem h1
    omega
def moreL : List Str := ["note", "knot", "orb", "motor", "onx", "moon", "settle", "asset", "andy", "band", "timers", "offer", "boff", "resets", "innot", "order"]
theorem more_ok : ∀ z ∈ moreL, isWord z = true ∧ z.length ≤ 8 := by decide +kernel
theorem word_name {z : Str} (h : isWord z = true) (hl : z.length ≤ 8) (hk : z ∉ keptL) : isName z = true := by
  unfold isName
  rw [h, decide_eq_true hl, decide_eq_false hk]
  rfl
section
variable {P : Program} {w : World} {K : PySem.W.Frag} {mg : Str → Option Value} {base : Heap}
theorem ok_names (T : TNames2 K mg) : FnAt P w K mg base CX0 "_law_names" 2 ["_law_cell", "_law_many"] spNames := by
  have G__law_mixed : FnAt P w K mg base CX0 "_law_mixed" 1 _ spMixed := ok_mixed T.cells
  refine fnAt_ok T.d_names sc__law_names (fun vs H Q E h => ?_) (fun f cdv A outer s H vs Q E hr h => ?_)
  · obtain ⟨c, m, rfl, _⟩ := h; rfl
  · obtain ⟨c, m, rfl, hc, hm0, hm1, k⟩ := h
    refine ⟨_, (pss_cons (ps_set (i := 2) sc__law_names.nd rfl (by first | exact Or.inl rfl | exact Or.inr rfl) pe_str)
        (pss_cons (ps_set (i := 3) sc__law_names.nd rfl (by first | exact Or.inl rfl | exact Or.inr rfl) (pe_tup (pa_cons pe_str (pa_cons pe_str (pa_cons pe_str (pa_cons pe_str (pa_cons pe_str (pa_cons pe_str (pa_cons pe_str (pa_cons pe_str (pa_cons pe_str (pa_cons pe_str (pa_cons pe_str pa_nil)))))))))))))
        (pss_cons (ps_set (i := 4) sc__law_names.nd rfl (by first | exact Or.inl rfl | exact Or.inr rfl) (pe_op op_add pe_int (pe_op op_mod (pv 0) pe_int)))
        (pss_cons (ps_set (i := 5) sc__law_names.nd rfl (by first | exact Or.inl rfl | exact Or.inr rfl) (pe_op op_mod (pe_callF G__law_mixed hr pass0 (pa_cons (pv 0) (pa_cons pe_int pa_nil))) (pv 4)))
        (pss_cons (ps_set (i := 6) sc__law_names.nd rfl (by first | exact Or.inl rfl | exact Or.inr rfl) (pe_lst pa_nil))
        (pss_cons (ps_for PassesOwn.never rfl (pi_range1 rfl T.z_range (pa_cons (pv 1) pa_nil)) (pg_name (i := 7) sc__law_names.nd rfl (by first | exact Or.inl rfl | exact Or.inr rfl)) (pss_cons (ps_set (i := 8) sc__law_names.nd rfl (by first | exact Or.inl rfl | exact Or.inr rfl) (pe_ix ix_str (pv 2) (pe_op op_mod (pe_op op_add (pe_callF G__law_mixed hr pass0 (pa_cons (pv 0) (pa_cons pe_int pa_nil))) (pe_op op_mul pe_int (pv 7))) pe_int) (fun _ _ => rfl)))
          (pss_cons (ps_set (i := 9) sc__law_names.nd rfl (by first | exact Or.inl rfl | exact Or.inr rfl) pe_str)
          (pss_cons (ps_for PassesOwn.never rfl (pi_range1 rfl T.z_range (pa_cons (pv 4) pa_nil)) (pg_name (i := 10) sc__law_names.nd rfl (by first | exact Or.inl rfl | exact Or.inr rfl)) (pss_one (ps_set (i := 9) sc__law_names.nd rfl (by first | exact Or.inl rfl | exact Or.inr rfl) (pe_op op_add_str (pv 9) (pe_ix ix_list (pe_lst (pa_cons (pe_ix ix_str (pv 2) (pe_op op_mod (pe_callF G__law_mixed hr pass0 (pa_cons (pv 0) (pa_cons (pv 10) pa_nil))) pe_int) (fun _ _ => rfl)) (pa_cons (pv 8) pa_nil))) (pe_callTy call_int1 (by rfl) T.z_int (show PySem.bootBuiltins "int" = some (.type "int") by decide +kernel) (pa_cons (pe_cmpR op_eq (pv 10) (pv 5) (nomark _)) pa_nil)) (fun _ _ => rfl))))))
          (C8.pss_cut (ps_if (PW.pt (pw_and (pt_cmpR op_eq (pe_op op_mod (pe_op op_fdiv (pv 0) pe_int) pe_int) pe_int (nomark _)) (pw_and1 (pt_cmpR op_lt (pv 7) pe_int (nomark _))))) (pss_cons (ps_set (i := 11) sc__law_names.nd rfl (by first | exact Or.inl rfl | exact Or.inr rfl) (pe_lst (pa_cons pe_str (pa_cons pe_str (pa_cons pe_str (pa_cons pe_str (pa_cons pe_str (pa_cons pe_str (pa_cons pe_str (pa_cons pe_str (pa_cons pe_str (pa_cons pe_str (pa_cons pe_str pa_nil)))))))))))))
            (pss_cons (ps_set (i := 11) sc__law_names.nd rfl (by first | exact Or.inl rfl | exact Or.inr rfl) (pe_op op_cat (pv 11) (pe_lst (pa_cons pe_str (pa_cons pe_str (pa_cons pe_str (pa_cons pe_str (pa_cons pe_str pa_nil))))))))
            (pss_one (ps_set (i := 9) sc__law_names.nd rfl (by first | exact Or.inl rfl | exact Or.inr rfl) (pe_ix ix_list (pv 11) (pe_op op_mod (pe_op op_add (pv 7) (pe_op op_fdiv (pv 0) pe_int)) pe_int) (fun _ _ => rfl)))))) pss_nil)
          (pss_cons (ps_set (i := 12) sc__law_names.nd rfl (by first | exact Or.inl rfl | exact Or.inr rfl) pe_int)
          (pss_cons (ps_while PassesOwn.never (PW.pt (pw_or (pt_cmpR op_in_seq (pv 9) (pv 6) rfl) (pw_or1 (pt_cmpR op_in_seq (pv 9) (pv 3) rfl)))) (pss_cons (ps_aug (i := 12) sc__law_names.nd rfl (by first | exact Or.inl rfl | exact Or.inr rfl) pe_int iop_add)
            (pss_one (ps_set (i := 9) sc__law_names.nd rfl (by first | exact Or.inl rfl | exact Or.inr rfl) (pe_op op_add_str (pe_op op_add_str pe_str (pe_ix ix_str (pv 2) (pe_op op_mod (pv 12) pe_int) (fun _ _ => rfl))) (pe_ix ix_str (pv 2) (pe_op op_mod (pe_op op_add (pv 7) (pv 12)) pe_int) (fun _ _ => rfl)))))))
          (pss_one (ps_expr (pe_bm PySem.F.plainAttrs_list PySem.F.slot_list_append PySem.F.type_list_append mt_append (pv 6) (pa_cons (pv 9) pa_nil)))))))))))
        (pss_one (ps_ret (pv 6))))))))), ?_⟩
    walk_at "rd"
    have hpl0 := mixed_nn c 50
    have hsz : 0 ≤ c % 8 ∧ c % 8 < 8 := ⟨Int.emod_nonneg _ (by decide), Int.emod_lt_of_pos _ (by decide)⟩
    refine ⟨line_ge (by simp), fun p np => ?_⟩
    have s0 : Same H (upd H p (.tup keptV)) := Same.new np
    have hp0 : upd H p (.tup keptV) p = some (.tup keptV) := upd_same
    show spMixed [V.int c, V.int 50] (upd H p (.tup keptV)) _ _
    generalize upd H p (.tup keptV) = H0 at s0 hp0 ⊢
    refine ⟨_, _, rfl, _, rfl, by omega, Nat.zero_le _, fun q nq => ?_⟩
    generalize mixed c 50 % (1 + c % 8) = pl
    refine ⟨_, rfl, m, rfl, by omega, by omega, for_range (lo := 0) (n := m.toNat) (fun j σ H' => ∃ (v7 v8 v9 v10 v11 v12 : Option V) (ns : List Str), σ = [some (.int c), some (.int m), some (.str ("abcdefghijklmnopqrstuvwxyz" : Str)), some (.ref p), some (.int (1 + c % 8)), some (.int pl), some (.ref q), v7, v8, v9, v10, v11, v12] ∧ Same H0 H' ∧ NamesU H' q ns j)
      ⟨none, none, none, none, none, none, [], rfl, Same.new nq, ⟨upd_same, rfl, by simp, by simp⟩⟩ ?_ ?_⟩
    · rintro j σ H1 hj ⟨v7, v8, v9, v10, v11, v12, ns, rfl, s1, hN⟩
      have hjm : j < 24 := by omega
      walk_at "rd"
      have e0 := Int.emod_nonneg (mixed c 51 + 5 * (0 + (j : Int))) (show (26 : Int) ≠ 0 by decide)
      have e1 := Int.emod_lt_of_pos (mixed c 51 + 5 * (0 + (j : Int))) (show (0 : Int) < 26 by decide)
      refine ⟨_, _, rfl, _, rfl, line_ge (by decide +kernel), _, letters_at e0 e1, ?_⟩
      have hx : 97 ≤ 97 + ((mixed c 51 + 5 * (0 + (j : Int))) % 26).toNat ∧ 97 + ((mixed c 51 + 5 * (0 + (j : Int))) % 26).toNat ≤ 122 := by omega
      generalize 97 + ((mixed c 51 + 5 * (0 + (j : Int))) % 26).toNat = x at hx
      refine ⟨_, rfl, _, rfl, by omega, by omega, for_range (lo := 0) (n := (1 + c % 8).toNat) (fun i σ H' => ∃ (v10 : Option V) (l : List Nat), σ = [some (.int c), some (.int m), some (.str ("abcdefghijklmnopqrstuvwxyz" : Str)), some (.ref p), some (.int (1 + c % 8)), some (.int pl), some (.ref q), some (.int (0 + (j : Int))), some (.str ⟨#[x]⟩), some (.str (mkS l)), v10, v11, v12] ∧ Same H1 H' ∧ l.length = i ∧ ∀ y ∈ l, 97 ≤ y ∧ y ≤ 122)
        ⟨v10, [], by rw [empty_mk], Same.refl _, rfl, by simp⟩ ?_ ?_⟩
      · rintro i σ H2 hi ⟨v10, l, rfl, s2, hl, hlow⟩
        walk_at "rd"
        have f0 := Int.emod_nonneg (mixed c (0 + (i : Int))) (show (26 : Int) ≠ 0 by decide)
        have f1 := Int.emod_lt_of_pos (mixed c (0 + (i : Int))) (show (0 : Int) < 26 by decide)
        refine ⟨_, _, rfl, _, rfl, line_ge (by decide +kernel), _, letters_at f0 f1, line_ge (by simp), fun z nz => ?_⟩
        have hy : 97 ≤ 97 + ((mixed c (0 + (i : Int))) % 26).toNat ∧ 97 + ((mixed c (0 + (i : Int))) % 26).toNat ≤ 122 := by omega
        have sn := Same.new (o := .lst [.str ⟨#[97 + ((mixed c (0 + (i : Int))) % 26).toNat]⟩, .str ⟨#[x]⟩]) nz
        generalize 97 + ((mixed c (0 + (i : Int))) % 26).toNat = ya at hy sn ⊢
        obtain ⟨u, hu1, hur⟩ : ∃ u, (97 ≤ u ∧ u ≤ 122) ∧ atI [V.str ⟨#[ya]⟩, .str ⟨#[x]⟩] (if decide (0 + (i : Int) = pl) = true then 1 else 0) = some (.str ⟨#[u]⟩) := by
          by_cases hd : 0 + (i : Int) = pl
          · rw [decide_eq_true hd]
            exact ⟨x, hx, rfl⟩
          · rw [decide_eq_false hd]
            exact ⟨ya, hy, rfl⟩
        refine ⟨z, _, _, .str ⟨#[u]⟩, rfl, rfl, SqL.of upd_same, hur, ⟨#[u]⟩, rfl, line_ge ?_, _, l ++ [u], ⟨?_, rfl⟩, s2.trans sn, by simp [hl], ?_⟩
        · rw [mkS_one, mkS_len, mkS_len]
          simp
          omega
        · rw [mkS_one, mkS_app]
        · intro y hm
          rcases List.mem_append.mp hm with hm | hm
          · exact hlow y hm
          · rw [List.mem_singleton.mp hm]
            exact hu1
      rintro σ H2 ⟨v10, l, rfl, s2, hl, hlow⟩
      have hN2 : NamesU H2 q ns j := ⟨s2 _ _ hN.at_, hN.len, hN.ok, hN.nd⟩
      have s12 := s1.trans s2
      refine ⟨fun σ' H' => ∃ (v11 : Option V) (z : Str), σ' = [some (.int c), some (.int m), some (.str ("abcdefghijklmnopqrstuvwxyz" : Str)), some (.ref p), some (.int (1 + c % 8)), some (.int pl), some (.ref q), some (.int (0 + (j : Int))), some (.str ⟨#[x]⟩), some (.str z), v10, v11, v12] ∧ Same H2 H' ∧ isWord z = true ∧ z.length ≤ 8, ?_, ?_⟩
      · have hw : isWord (mkS l) = true := by
          unfold isWord
          rw [tl_mkS]
          have e1 : l.all isLow = true := List.all_eq_true.mpr fun y hy => by
            unfold isLow
            exact decide_eq_true (hlow y hy)
          have e2 : l.isEmpty = false := by
            cases l with
            | nil => simp at hl; omega
            | cons => rfl
          rw [e1, e2]
          rfl
        have hwl : (mkS l).length ≤ 8 := by rw [mkS_len]; omega
        walk_at "rd"
        refine ite2 (fun _ => ite2 (fun _ => ⟨line_ge (by simp), fun z1 n1 => ⟨line_ge (by simp), fun z2 n2 => ?_⟩⟩) (fun _ => ⟨_, mkS l, ⟨rfl, rfl⟩, Same.refl _, hw, hwl⟩)) (fun _ => ⟨_, mkS l, ⟨rfl, rfl⟩, Same.refl _, hw, hwl⟩)
        have g1 := Same.new (o := .lst [.str "note", .str "knot", .str "orb", .str "motor", .str "onx", .str "moon", .str "settle", .str "asset", .str "andy", .str "band", .str "timers"]) n1
        have g2 := g1.trans (Same.new (o := .lst [.str "offer", .str "boff", .str "resets", .str "innot", .str "order"]) n2)
        refine ⟨z1, z2, _, _, rfl, rfl, Same.new n2 _ _ upd_same, upd_same, line_ge (by simp), fun z3 n3 => ?_⟩
        obtain ⟨y, hy, hya⟩ := atI_ex (xs := moreL.map V.str) (i := (0 + (j : Int) + c / 24) % 16) (Int.emod_nonneg _ (by decide)) (Int.emod_lt_of_pos _ (by decide))
        obtain ⟨u, hu1, rfl⟩ := List.mem_map.mp hy
        obtain ⟨u1, u2⟩ := more_ok u hu1
        exact ⟨z3, _, _, .str u, rfl, rfl, SqL.of upd_same, hya, _, u, ⟨rfl, rfl⟩, g2.trans (Same.new n3), u1, u2⟩
      rintro σ' H3 ⟨v11, z, rfl, s3, hz, hzl⟩
      walk_at "rd"
      have hN3 : H3 q = some (.lst (ns.map V.str)) := s3 _ _ hN2.at_
      have hp3 : H3 p = some (.tup keptV) := (s12.trans s3) _ _ hp0
      refine ⟨fun mm σ H' => ∃ (t : Nat) (z : Str), σ = [some (.int c), some (.int m), some (.str ("abcdefghijklmnopqrstuvwxyz" : Str)), some (.ref p), some (.int (1 + c % 8)), some (.int pl), some (.ref q), some (.int (0 + (j : Int))), some (.str ⟨#[x]⟩), some (.str z), v10, v11, some (.int (t : Int))] ∧ H' = H3 ∧ isWord z = true ∧ z.length ≤ 8 ∧ (∀ i, i + 1 < t → cand j (i + 1) ∈ ns) ∧ (∀ i, t = i + 1 → z = cand j (i + 1)) ∧ mm = 30 - t ∧ t ≤ 25,
        ⟨30, 0, z, rfl, rfl, hz, hzl, fun i hi => by omega, fun i hi => by omega, rfl, by omega⟩, ?_⟩
      rintro mm σ H' ⟨t, z, rfl, rfl, hz, hzl, h1, h2, rfl, ht⟩
      walk_at "rd"
      have nxt : (z ∈ ns ∨ z ∈ keptL) → (∀ i, i + 1 < t + 1 → cand j (i + 1) ∈ ns) ∧ t + 1 ≤ 25 := by
        intro hz'
        have hall : ∀ i, i + 1 < t + 1 → cand j (i + 1) ∈ ns := by
          intro i hi
          by_cases he : i + 1 = t
          · have e := h2 i he.symm
            rw [← e]
            rcases hz' with h | h
            · exact h
            · rw [e] at h
              exact absurd h (cand_free j (i + 1))
          · exact h1 i (by omega)
        refine ⟨hall, ?_⟩
        have := pigeons (fun i => cand j (i + 1)) t ns (fun i hi => hall i (by omega)) fun i k hik hk => cand_ne (by omega) (by omega)
        have := hN.len
        omega
      have a0 := Int.emod_nonneg ((t : Int) + 1) (show (26 : Int) ≠ 0 by decide)
      have a1 := Int.emod_lt_of_pos ((t : Int) + 1) (show (0 : Int) < 26 by decide)
      have b0 := Int.emod_nonneg (0 + (j : Int) + ((t : Int) + 1)) (show (26 : Int) ≠ 0 by decide)
      have b1 := Int.emod_lt_of_pos (0 + (j : Int) + ((t : Int) + 1)) (show (0 : Int) < 26 by decide)
      have ecand : ("z" : Str) ++ ⟨#[97 + (((t : Int) + 1) % 26).toNat]⟩ ++ ⟨#[97 + ((0 + (j : Int) + ((t : Int) + 1)) % 26).toNat]⟩ = cand j (t + 1) := by
        have ez : ("z" : Str) = mkS [122] := by decide +kernel
        have q1 : 97 + (((t : Int) + 1) % 26).toNat = 97 + (t + 1) % 26 := by omega
        have q2 : 97 + ((0 + (j : Int) + ((t : Int) + 1)) % 26).toNat = 97 + (j + (t + 1)) % 26 := by omega
        rw [ez, mkS_one, mkS_one, mkS_app, mkS_app, q1, q2]
        rfl
      have zl : ("z" : Str).length = 1 := by decide +kernel
      refine ⟨q, _, rfl, .inl (SqL.of hN3), rfl, flat_strs _, ?_⟩
      rw [if_neg Bool.false_ne_true, inV_strs]
      by_cases hm : z ∈ ns
      · rw [decide_eq_true hm]
        refine ⟨true, rfl, iteT ?_⟩
        exact ⟨_, fun σ' H' h => h, line_ge (by decide +kernel), _, letters_at a0 a1, line_ge (by rw [zl]; show 1 + 1 ≤ _; omega), line_ge (by decide +kernel), _, letters_at b0 b1, line_ge (by rw [len_app, zl]; show 1 + 1 + 1 ≤ _; omega), 30 - (t + 1), by omega, t + 1, cand j (t + 1), by rw [← ecand, show (((t + 1 : Nat) : Int)) = (t : Int) + 1 by omega], rfl, (cand_word j (t + 1)).1, (cand_word j (t + 1)).2, (nxt (.inl hm)).1, fun i hi => by rw [show i = t by omega], rfl, (nxt (.inl hm)).2⟩
      · rw [decide_eq_false hm]
        refine ⟨false, rfl, iteF ⟨p, keptV, rfl, .inr (SqT.of hp3), rfl, flat_strs _, ?_⟩⟩
        rw [if_neg Bool.false_ne_true, show inV (.str z) keptV = decide (z ∈ keptL) from inV_strs z keptL]
        by_cases hk : z ∈ keptL
        · rw [decide_eq_true hk]
          refine ⟨true, rfl, iteT ?_⟩
          exact ⟨_, fun σ' H' h => h, line_ge (by decide +kernel), _, letters_at a0 a1, line_ge (by rw [zl]; show 1 + 1 ≤ _; omega), line_ge (by decide +kernel), _, letters_at b0 b1, line_ge (by rw [len_app, zl]; show 1 + 1 + 1 ≤ _; omega), 30 - (t + 1), by omega, t + 1, cand j (t + 1), by rw [← ecand, show (((t + 1 : Nat) : Int)) = (t : Int) + 1 by omega], rfl, (cand_word j (t + 1)).1, (cand_word j (t + 1)).2, (nxt (.inr hk)).1, fun i hi => by rw [show i = t by omega], rfl, (nxt (.inr hk)).2⟩
        · rw [decide_eq_false hk]
          refine ⟨false, rfl, iteF ?_⟩
          refine ⟨_, rfl, .inl ⟨rfl, _, SqL.of hN3⟩, _, rfl, q, ns.map V.str, _, rfl, rfl, hN3, ?_, _, _, _, _, _, _, ⟨rfl, rfl, rfl, rfl, rfl, rfl⟩, Same.mut (s12.trans s3) nq, ns ++ [z], ?_, ?_, ?_, ?_⟩
          · rw [List.length_map, hN.len]
            exact small1000 (by omega)
          · rw [upd_same, List.map_append]
            rfl
          · rw [List.length_append, hN.len]
            rfl
          · intro n hn
            rcases List.mem_append.mp hn with hn | hn
            · exact hN.ok n hn
            · rw [List.mem_singleton.mp hn]
              exact word_name hz hzl hk
          · rw [List.nodup_append]
            refine ⟨hN.nd, by simp, fun a ha b hb => ?_⟩
            rw [List.mem_singleton.mp hb]
            rintro rfl
            exact hm ha
    · rintro σ H1 ⟨v7, v8, v9, v10, v11, v12, ns, rfl, s1, hN⟩
      walk_at "rd"
      exact k _ q ns (s0.trans s1) (s0.free nq) hN
end

--%% N2
/-! ## conditions: the plain side -/
inductive Cond where
  | fixed (b : Bool)
  | contact (n : Str)
  | not (c : Cond)
  | grp (s : Bool) (cs : List Cond)
mutual
def Cond.size : Cond → Nat
  | .fixed _ => 1
  | .contact _ => 1
  | .not c => c.size + 1
  | .grp _ cs => Cond.sizes cs + 1
def Cond.sizes : List Cond → Nat
  | [] => 0
  | c :: cs => c.size + Cond.sizes cs
end
mutual
def Cond.depth : Cond → Nat
  | .fixed _ => 1
  | .contact _ => 1
  | .not c => c.depth + 1
  | .grp _ cs => Cond.depths cs + 1
def Cond.depths : List Cond → Nat
  | [] => 0
  | c :: cs => max c.depth (Cond.depths cs)
end
def Cond.kids : Cond → List Cond
  | .fixed _ => []
  | .contact _ => []
  | .not c => [c]
  | .grp _ cs => cs
theorem Cond.depth_kids (c : Cond) : c.depth = Cond.depths c.kids + 1 := by
  cases c <;> simp [Cond.depth, Cond.kids, Cond.depths]
theorem Cond.size_kids (c : Cond) : c.size = Cond.sizes c.kids + 1 := by
  cases c <;> simp [Cond.size, Cond.kids, Cond.sizes]
theorem Cond.depth_pos (c : Cond) : 1 ≤ c.depth := by rw [Cond.depth_kids]; omega
theorem Cond.size_pos (c : Cond) : 1 ≤ c.size := by rw [Cond.size_kids]; omega
theorem Cond.depth_mem : ∀ {cs : List Cond} {c : Cond}, c ∈ cs → c.depth ≤ Cond.depths cs
  | x :: cs, c, h => by
    rw [Cond.depths]
    rcases List.mem_cons.mp h with rfl | h
    · omega
    · have := Cond.depth_mem h
      omega
theorem Cond.size_mem : ∀ {cs : List Cond} {c : Cond}, c ∈ cs → c.size ≤ Cond.sizes cs
  | x :: cs, c, h => by
    rw [Cond.sizes]
    rcases List.mem_cons.mp h with rfl | h
    · omega
    · have := Cond.size_mem h
      omega
theorem Cond.sizes_sum : ∀ cs : List Cond, Cond.sizes cs = (cs.map Cond.size).sum
  | [] => rfl
  | c :: cs => by rw [Cond.sizes, Cond.sizes_sum cs, List.map_cons, List.sum_cons]
theorem Cond.len_sizes : ∀ cs : List Cond, cs.length ≤ Cond.sizes cs
  | [] => Nat.le_refl _
  | c :: cs => by
    have h1 := Cond.len_sizes cs
    have h2 := c.size_pos
    rw [Cond.sizes, List.length_cons]
    omega
theorem Cond.depths_le : ∀ cs : List Cond, Cond.depths cs ≤ Cond.sizes cs
  | [] => Nat.le_refl _
  | c :: cs => by
    have ih := Cond.depths_le cs
    have h2 : c.depth ≤ c.size := by
      rw [Cond.depth_kids, Cond.size_kids]
      have := Cond.depths_le c.kids
      omega
    rw [Cond.depths, Cond.sizes]
    omega
termination_by cs => Cond.sizes cs
decreasing_by
  · have := c.size_pos
    simp [Cond.sizes]
    omega
  · have := Cond.size_kids c
    simp [Cond.sizes]
    omega
/-- a truth of each name -/
abbrev Im := Str → Bool
mutual
def Cond.holds (f : Im) : Cond → Bool
  | .fixed b => b
  | .contact n => f n
  | .not c => !c.holds f
  | .grp true cs => Cond.alls f cs
  | .grp false cs => Cond.anys f cs
def Cond.alls (f : Im) : List Cond → Bool
  | [] => true
  | c :: cs => c.holds f && Cond.alls f cs
def Cond.anys (f : Im) : List Cond → Bool
  | [] => false
  | c :: cs => c.holds f || Cond.anys f cs
end
theorem Cond.alls_map (f : Im) : ∀ cs : List Cond, Cond.alls f cs = (cs.map (Cond.holds f)).all id
  | [] => rfl
  | c :: cs => by rw [Cond.alls, Cond.alls_map f cs]; rfl
theorem Cond.anys_map (f : Im) : ∀ cs : List Cond, Cond.anys f cs = (cs.map (Cond.holds f)).any id
  | [] => rfl
  | c :: cs => by rw [Cond.anys, Cond.anys_map f cs]; rfl
/-- names put behind those that are there, each once -/
def addN (l : List Str) (n : Str) : List Str := if n ∈ l then l else l ++ [n]
mutual
def Cond.gather (l : List Str) : Cond → List Str
  | .fixed _ => l
  | .contact n => addN l n
  | .not c => c.gather l
  | .grp _ cs => Cond.gathers l cs
def Cond.gathers (l : List Str) : List Cond → List Str
  | [] => l
  | c :: cs => Cond.gathers (c.gather l) cs
end
def Cond.contacts (c : Cond) : List Str := c.gather []
theorem Cond.gathers_fold : ∀ (l : List Str) (cs : List Cond), Cond.gathers l cs = cs.foldl Cond.gather l
  | l, [] => rfl
  | l, c :: cs => by rw [Cond.gathers, Cond.gathers_fold (c.gather l) cs]; rfl
def word (s : Bool) : Str := if s then "and" else "or"
mutual
def Cond.told : Cond → PyData
  | .fixed b => .tuple [.str "fixed", .bool b]
  | .contact n => .tuple [.str "contact", .str n]
  | .not c => .tuple [.str "not", c.told]
  | .grp s cs => .tuple (.str (word s) :: Cond.tolds cs)
def Cond.tolds : List Cond → List PyData
  | [] => []
  | c :: cs => c.told :: Cond.tolds cs
end
theorem Cond.tolds_map : ∀ cs : List Cond, Cond.tolds cs = cs.map Cond.told
  | [] => rfl
  | c :: cs => by rw [Cond.tolds, Cond.tolds_map cs]; rfl
theorem sizes_app : ∀ a b : List Cond, Cond.sizes (a ++ b) = Cond.sizes a + Cond.sizes b
  | [], b => by simp [Cond.sizes]
  | x :: a, b => by rw [List.cons_append, Cond.sizes, Cond.sizes, sizes_app a b]; omega

/-! ## parts: the objects -/
/-- the five classes -/
structure Cl where
  fx : Addr
  ct : Addr
  tn : Addr
  sr : Addr
  br : Addr
def Cl.gr (cl : Cl) (s : Bool) : Addr := if s then cl.sr else cl.br
def Cl.has (cl : Cl) (C : Addr) : Prop := C = cl.fx ∨ C = cl.ct ∨ C = cl.tn ∨ C = cl.sr ∨ C = cl.br
theorem Cl.has_gr (cl : Cl) (s : Bool) : cl.has (cl.gr s) := by
  cases s <;> simp [Cl.gr, Cl.has]
mutual
/-- at v stands the condition c -/
inductive IsP (cl : Cl) (H : Hp) : V → Cond → Prop
  | fixed {a dx : Addr} {b : Bool} (h : H a = some (.ins cl.fx dx [("value", .bl b)])) : IsP cl H (.ref a) (.fixed b)
  | contact {a dx : Addr} {n : Str} (h : H a = some (.ins cl.ct dx [("name", .str n)])) : IsP cl H (.ref a) (.contact n)
  | not {a dx : Addr} {v : V} {c : Cond} (h : H a = some (.ins cl.tn dx [("part", v)])) (p : IsP cl H v c) : IsP cl H (.ref a) (.not c)
  | grp {a dx t : Addr} {vs : List V} {s : Bool} {cs : List Cond} (h : H a = some (.ins (cl.gr s) dx [("parts", .ref t)])) (ht : H t = some (.tup vs)) (p : IsPs cl H vs cs) : IsP cl H (.ref a) (.grp s cs)
inductive IsPs (cl : Cl) (H : Hp) : List V → List Cond → Prop
  | nil : IsPs cl H [] []
  | cons {v : V} {vs : List V} {c : Cond} {cs : List Cond} (h : IsP cl H v c) (t : IsPs cl H vs cs) : IsPs cl H (v :: vs) (c :: cs)
end
section
variable {cl : Cl} {H H' : Hp} {v : V} {vs : List V} {c : Cond} {cs : List Cond}
mutual
theorem IsP.mono (k : Imm cl.has H H') : ∀ {v : V} {c : Cond}, IsP cl H v c → IsP cl H' v c
  | _, _, .fixed h => .fixed (k _ _ h (.inl rfl))
  | _, _, .contact h => .contact (k _ _ h (.inr (.inl rfl)))
  | _, _, .not h p => .not (k _ _ h (.inr (.inr (.inl rfl)))) (p.mono k)
  | _, _, .grp h ht p => .grp (k _ _ h (cl.has_gr _)) (k _ _ ht trivial) (p.mono k)
theorem IsPs.mono (k : Imm cl.has H H') : ∀ {vs : List V} {cs : List Cond}, IsPs cl H vs cs → IsPs cl H' vs cs
  | _, _, .nil => .nil
  | _, _, .cons p t => .cons (p.mono k) (t.mono k)
end
theorem IsPs.length : ∀ {vs : List V} {cs : List Cond}, IsPs cl H vs cs → vs.length = cs.length
  | _, _, .nil => rfl
  | _, _, .cons _ t => by rw [List.length_cons, List.length_cons, IsPs.length t]
theorem IsPs.at : ∀ {vs : List V} {cs : List Cond} {i : Nat} {v : V}, IsPs cl H vs cs → vs[i]? = some v → ∃ c, cs[i]? = some c ∧ IsP cl H v c
  | _, _, i, v, .nil, h => by simp at h
  | _, _, 0, v, .cons p t, h => by
    simp at h
    subst h
    exact ⟨_, rfl, p⟩
  | _, _, i + 1, v, .cons p t, h => by
    obtain ⟨c, h1, h2⟩ := IsPs.at (i := i) (v := v) t (by simpa using h)
    exact ⟨c, by simpa using h1, h2⟩
theorem IsPs.snoc : ∀ {vs : List V} {cs : List Cond} {v : V} {c : Cond}, IsPs cl H vs cs → IsP cl H v c → IsPs cl H (vs ++ [v]) (cs ++ [c])
  | _, _, _, _, .nil, p => .cons p .nil
  | _, _, _, _, .cons q t, p => .cons q (t.snoc p)
/-- the receiver: an instance of one of the five -/
theorem IsP.obj (p : IsP cl H v c) : ∃ a C dx f x, v = .ref a ∧ H a = some (.ins C dx [(f, x)]) ∧ cl.has C ∧ (f = "value" ∨ f = "name" ∨ f = "part" ∨ f = "parts") := by
  cases p with
  | fixed h => exact ⟨_, _, _, _, _, rfl, h, .inl rfl, .inl rfl⟩
  | contact h => exact ⟨_, _, _, _, _, rfl, h, .inr (.inl rfl), .inr (.inl rfl)⟩
  | not h _ => exact ⟨_, _, _, _, _, rfl, h, .inr (.inr (.inl rfl)), .inr (.inr (.inl rfl))⟩
  | grp h _ _ => exact ⟨_, _, _, _, _, rfl, h, cl.has_gr _, .inr (.inr (.inr rfl))⟩
end
/-- no method is called like a field -/
def notField (m : Str) : Bool := !(m == "value") && !(m == "name") && !(m == "part") && !(m == "parts")
theorem lookup_field {m f : Str} {x : V} (hm : notField m = true) (hf : f = "value" ∨ f = "name" ∨ f = "part" ∨ f = "parts") : List.lookup m [(f, x)] = none := by
  unfold notField at hm
  simp only [Bool.and_eq_true, Bool.not_eq_true'] at hm
  obtain ⟨⟨⟨h1, h2⟩, h3⟩, h4⟩ := hm
  rcases hf with rfl | rfl | rfl | rfl <;> exact lk1 (by assumption)
/-- what the call of a method of a part asks -/
theorem meth_of {cl : Cl} {H : Hp} {v : V} {c : Cond} {m : Str} (hm : notField m = true) (p : IsP cl H v c) : ∃ a C dx fs, v = .ref a ∧ H a = some (.ins C dx fs) ∧ cl.has C ∧ fs.lookup m = none := by
  obtain ⟨a, C, dx, f, x, rfl, h, hc, hf⟩ := p.obj
  exact ⟨a, C, dx, _, rfl, h, hc, lookup_field hm hf⟩
theorem look_of {cl : Cl} {H : Hp} {a C dx : Addr} {fs : List (Str × V)} {c : Cond} {m : Str} (hm : notField m = true) (ha : H a = some (.ins C dx fs)) (p : IsP cl H (.ref a) c) : fs.lookup m = none := by
  obtain ⟨a', C', dx', f, x, e, h, hc, hf⟩ := p.obj
  injection e with e
  subst e
  rw [ha] at h
  cases h
  exact lookup_field hm hf

abbrev s_Part_inner : Stmt := inClass (top 56) 0
theorem sc_Part_inner : FnScope ["self"] ["self"] (defScope s_Part_inner) := ⟨rfl, rfl, rfl, by decide +kernel, rfl, by decide +kernel, by decide +kernel⟩
abbrev s_Turned_inner : Stmt := inClass (top 59) 1
theorem sc_Turned_inner : FnScope ["self"] ["self"] (defScope s_Turned_inner) := ⟨rfl, rfl, rfl, by decide +kernel, rfl, by decide +kernel, by decide +kernel⟩
abbrev s_Group_inner : Stmt := inClass (top 60) 1
theorem sc_Group_inner : FnScope ["self"] ["self"] (defScope s_Group_inner) := ⟨rfl, rfl, rfl, by decide +kernel, rfl, by decide +kernel, by decide +kernel⟩
abbrev s_Part_size : Stmt := inClass (top 56) 4
theorem sc_Part_size : FnScope ["self", "part"] ["self"] (defScope s_Part_size) := ⟨rfl, rfl, rfl, by decide +kernel, rfl, by decide +kernel, by decide +kernel⟩
abbrev s_Part_depth : Stmt := inClass (top 56) 5
theorem sc_Part_depth : FnScope ["self", "part"] ["self"] (defScope s_Part_depth) := ⟨rfl, rfl, rfl, by decide +kernel, rfl, by decide +kernel, by decide +kernel⟩
abbrev s_Part_bounded : Stmt := inClass (top 56) 8
theorem sc_Part_bounded : FnScope ["self"] ["self"] (defScope s_Part_bounded) := ⟨rfl, rfl, rfl, by decide +kernel, rfl, by decide +kernel, by decide +kernel⟩
structure TParts (K : PySem.W.Frag) (mg : Str → Option Value) (cl : Cl) : Prop where
  c_Fixed : ClsAt K mg "Fixed" cl.fx
  c_Contact : ClsAt K mg "Contact" cl.ct
  c_Turned : ClsAt K mg "Turned" cl.tn
  c_Series : ClsAt K mg "Series" cl.sr
  c_Branch : ClsAt K mg "Branch" cl.br
  nd : [cl.fx, cl.ct, cl.tn, cl.sr, cl.br].Nodup
  nv_fx : NoAttr K cl.fx "value"
  nn_ct : NoAttr K cl.ct "name"
  np_tn : NoAttr K cl.tn "part"
  np_sr : NoAttr K cl.sr "parts"
  np_br : NoAttr K cl.br "parts"
  m_inner_fx : MethAt K cl.fx "inner" "Part.inner" s_Part_inner ["self"]
  m_inner_ct : MethAt K cl.ct "inner" "Part.inner" s_Part_inner ["self"]
  m_inner_tn : MethAt K cl.tn "inner" "Turned.inner" s_Turned_inner ["self"]
  m_inner_sr : MethAt K cl.sr "inner" "Group.inner" s_Group_inner ["self"]
  m_inner_br : MethAt K cl.br "inner" "Group.inner" s_Group_inner ["self"]
  m_size_fx : MethAt K cl.fx "size" "Part.size" s_Part_size ["self"]
  m_size_ct : MethAt K cl.ct "size" "Part.size" s_Part_size ["self"]
  m_size_tn : MethAt K cl.tn "size" "Part.size" s_Part_size ["self"]
  m_size_sr : MethAt K cl.sr "size" "Part.size" s_Part_size ["self"]
  m_size_br : MethAt K cl.br "size" "Part.size" s_Part_size ["self"]
  m_depth_fx : MethAt K cl.fx "depth" "Part.depth" s_Part_depth ["self"]
  m_depth_ct : MethAt K cl.ct "depth" "Part.depth" s_Part_depth ["self"]
  m_depth_tn : MethAt K cl.tn "depth" "Part.depth" s_Part_depth ["self"]
  m_depth_sr : MethAt K cl.sr "depth" "Part.depth" s_Part_depth ["self"]
  m_depth_br : MethAt K cl.br "depth" "Part.depth" s_Part_depth ["self"]
  m_bounded_tn : MethAt K cl.tn "bounded" "Part.bounded" s_Part_bounded ["self"]
  m_bounded_sr : MethAt K cl.sr "bounded" "Part.bounded" s_Part_bounded ["self"]
  m_bounded_br : MethAt K cl.br "bounded" "Part.bounded" s_Part_bounded ["self"]
  z_sum : mg "sum" = none
  z_max : mg "max" = none
  z_tuple : mg "tuple" = none
  g_MOST_SIZE : GlobC mg "MOST_SIZE" (.int 60)
  g_MOST_DEEP : GlobC mg "MOST_DEEP" (.int 20)
section
variable {P : Program} {w : World} {K : PySem.W.Frag} {mg : Str → Option Value} {base : Heap} {cl : Cl}
theorem TParts.gr (T : TParts K mg cl) (s : Bool) : ∃ x, ClsAt K mg x (cl.gr s) := by
  cases s
  · exact ⟨_, T.c_Branch⟩
  · exact ⟨_, T.c_Series⟩
theorem TParts.np (T : TParts K mg cl) (s : Bool) : NoAttr K (cl.gr s) "parts" := by
  cases s
  · exact T.np_br
  · exact T.np_sr
theorem TParts.cls (T : TParts K mg cl) {C : Addr} (h : cl.has C) : Cls K C := by
  rcases h with rfl | rfl | rfl | rfl | rfl
  · exact T.c_Fixed.cl
  · exact T.c_Contact.cl
  · exact T.c_Turned.cl
  · exact T.c_Series.cl
  · exact T.c_Branch.cl
/-- by the class, what stands there -/
theorem inv_fx (nd : [cl.fx, cl.ct, cl.tn, cl.sr, cl.br].Nodup) {H : Hp} {a dx : Addr} {fs : List (Str × V)} {c : Cond} (h : H a = some (.ins cl.fx dx fs)) (p : IsP cl H (.ref a) c) : ∃ b, c = .fixed b ∧ fs = ([("value", .bl b)] : List (Str × V)) := by
  simp only [List.nodup_cons, List.mem_cons, List.not_mem_nil, or_false, not_or] at nd
  cases p with
  | fixed q => rw [q] at h; cases h; exact ⟨_, rfl, rfl⟩
  | contact q => rw [q] at h; injection h with h; injection h with h; exact absurd h.symm nd.1.1
  | not q _ => rw [q] at h; injection h with h; injection h with h; exact absurd h.symm nd.1.2.1
  | @grp _ _ _ _ s _ q _ _ =>
    rw [q] at h; injection h with h; injection h with h
    cases s
    · exact absurd h.symm nd.1.2.2.2
    · exact absurd h.symm nd.1.2.2.1
theorem inv_ct (nd : [cl.fx, cl.ct, cl.tn, cl.sr, cl.br].Nodup) {H : Hp} {a dx : Addr} {fs : List (Str × V)} {c : Cond} (h : H a = some (.ins cl.ct dx fs)) (p : IsP cl H (.ref a) c) : ∃ n, c = .contact n ∧ fs = ([("name", .str n)] : List (Str × V)) := by
  simp only [List.nodup_cons, List.mem_cons, List.not_mem_nil, or_false, not_or] at nd
  cases p with
  | fixed q => rw [q] at h; injection h with h; injection h with h; exact absurd h nd.1.1
  | contact q => rw [q] at h; cases h; exact ⟨_, rfl, rfl⟩
  | not q _ => rw [q] at h; injection h with h; injection h with h; exact absurd h.symm nd.2.1.1
  | @grp _ _ _ _ s _ q _ _ =>
    rw [q] at h; injection h with h; injection h with h
    cases s
    · exact absurd h.symm nd.2.1.2.2
    · exact absurd h.symm nd.2.1.2.1
theorem inv_tn (nd : [cl.fx, cl.ct, cl.tn, cl.sr, cl.br].Nodup) {H : Hp} {a dx : Addr} {fs : List (Str × V)} {c : Cond} (h : H a = some (.ins cl.tn dx fs)) (p : IsP cl H (.ref a) c) : ∃ v c', c = .not c' ∧ fs = ([("part", v)] : List (Str × V)) ∧ IsP cl H v c' := by
  simp only [List.nodup_cons, List.mem_cons, List.not_mem_nil, or_false, not_or] at nd
  cases p with
  | fixed q => rw [q] at h; injection h with h; injection h with h; exact absurd h nd.1.2.1
  | contact q => rw [q] at h; injection h with h; injection h with h; exact absurd h nd.2.1.1
  | not q p => rw [q] at h; cases h; exact ⟨_, _, rfl, rfl, p⟩
  | @grp _ _ _ _ s _ q _ _ =>
    rw [q] at h; injection h with h; injection h with h
    cases s
    · exact absurd h.symm nd.2.2.1.2
    · exact absurd h.symm nd.2.2.1.1
theorem inv_gr (nd : [cl.fx, cl.ct, cl.tn, cl.sr, cl.br].Nodup) {H : Hp} {a dx C : Addr} {fs : List (Str × V)} {c : Cond} {s : Bool} (hC : C = cl.gr s) (h : H a = some (.ins C dx fs)) (p : IsP cl H (.ref a) c) :
    ∃ t vs cs, c = .grp s cs ∧ fs = ([("parts", .ref t)] : List (Str × V)) ∧ H t = some (.tup vs) ∧ IsPs cl H vs cs := by
  subst hC
  simp only [List.nodup_cons, List.mem_cons, List.not_mem_nil, or_false, not_or] at nd
  cases p with
  | fixed q =>
    rw [q] at h; injection h with h; injection h with h
    cases s
    · exact absurd h nd.1.2.2.2
    · exact absurd h nd.1.2.2.1
  | contact q =>
    rw [q] at h; injection h with h; injection h with h
    cases s
    · exact absurd h nd.2.1.2.2
    · exact absurd h nd.2.1.2.1
  | not q _ =>
    rw [q] at h; injection h with h; injection h with h
    cases s
    · exact absurd h nd.2.2.1.2
    · exact absurd h nd.2.2.1.1
  | @grp _ _ t vs s' cs q ht p =>
    rw [q] at h; injection h with h; injection h with h1 h2 h3
    have e : s' = s := by
      cases s <;> cases s'
      · rfl
      · exact absurd h1 nd.2.2.2.1
      · exact absurd h1.symm nd.2.2.2.1
      · rfl
    subst e
    exact ⟨t, vs, cs, rfl, h3.symm, ht, p⟩
theorem sum_cast : ∀ l : List Cond, (l.map fun c => (c.size : Int)).sum = (((l.map Cond.size).sum : Nat) : Int)
  | [] => rfl
  | c :: l => by
    rw [List.map_cons, List.sum_cons, sum_cast l, List.map_cons, List.sum_cons]
    omega
/-! ### inner -/
def spInner (cl : Cl) (C : Addr) : Sp := fun vs H Q _ => ∃ (a dx : Addr) (fs : List (Str × V)) (c : Cond), vs = [.ref a] ∧ H a = some (.ins C dx fs) ∧ IsP cl H (.ref a) c ∧
  ∀ (H' : Hp) (t : Addr) (ws : List V), Same H H' → H' t = some (.tup ws) → IsPs cl H' ws c.kids → Q (.ref t) H'
theorem ok_inner0 (T : TParts K mg cl) {C : Addr} (hC : C = cl.fx ∨ C = cl.ct) (D : MethAt K C "inner" "Part.inner" s_Part_inner ["self"]) :
    ∃ f fd, Cls K C ∧ Meth K C "inner" f ∧ Binds K fd ["self"] [] ∧ FnOk P w K mg base CX0 1 f fd ["self"] (spInner cl C) := by
  refine methAt_ok (T.cls (by rcases hC with rfl | rfl; exact .inl rfl; exact .inr (.inl rfl))) D sc_Part_inner (fun vs H Q E h => ?_) (fun f cdv A outer s H vs Q E hr h => ?_)
  · obtain ⟨a, dx, fs, c, rfl, _⟩ := h; rfl
  · obtain ⟨a, dx, fs, c, rfl, ha, p, k⟩ := h
    refine ⟨_, (pss_one (ps_ret (pe_tup pa_nil))), ?_⟩
    refine ⟨Nat.zero_le _, fun q nq => k _ q [] (Same.new nq) upd_same ?_⟩
    have e : c.kids = [] := by
      rcases hC with rfl | rfl
      · obtain ⟨b, rfl, _⟩ := inv_fx T.nd ha p; rfl
      · obtain ⟨b, rfl, _⟩ := inv_ct T.nd ha p; rfl
    rw [e]
    exact .nil
theorem ok_inner1 (T : TParts K mg cl) (D : MethAt K cl.tn "inner" "Turned.inner" s_Turned_inner ["self"]) :
    ∃ f fd, Cls K cl.tn ∧ Meth K cl.tn "inner" f ∧ Binds K fd ["self"] [] ∧ FnOk P w K mg base CX0 1 f fd ["self"] (spInner cl cl.tn) := by
  refine methAt_ok T.c_Turned.cl D sc_Turned_inner (fun vs H Q E h => ?_) (fun f cdv A outer s H vs Q E hr h => ?_)
  · obtain ⟨a, dx, fs, c, rfl, _⟩ := h; rfl
  · obtain ⟨a, dx, fs, c, rfl, ha, p, k⟩ := h
    obtain ⟨v, c', rfl, rfl, p'⟩ := inv_tn T.nd ha p
    refine ⟨_, (pss_one (ps_ret (pe_tup (pa_cons (pe_fld (pv 0) rfl) pa_nil)))), ?_⟩
    refine ⟨_, rfl, a, _, dx, _, v, rfl, ha, T.c_Turned.cl, T.np_tn, lk1s, line_ge (by simp), fun q nq => ?_⟩
    exact k _ q [v] (Same.new nq) upd_same (.cons (p'.mono (Imm.new nq)) .nil)
theorem ok_inner2 (T : TParts K mg cl) (s : Bool) (D : MethAt K (cl.gr s) "inner" "Group.inner" s_Group_inner ["self"]) :
    ∃ f fd, Cls K (cl.gr s) ∧ Meth K (cl.gr s) "inner" f ∧ Binds K fd ["self"] [] ∧ FnOk P w K mg base CX0 1 f fd ["self"] (spInner cl (cl.gr s)) := by
  refine methAt_ok (T.cls (cl.has_gr s)) D sc_Group_inner (fun vs H Q E h => ?_) (fun f cdv A outer st H vs Q E hr h => ?_)
  · obtain ⟨a, dx, fs, c, rfl, _⟩ := h; rfl
  · obtain ⟨a, dx, fs, c, rfl, ha, p, k⟩ := h
    obtain ⟨t, ws, cs, rfl, rfl, ht, p'⟩ := inv_gr T.nd rfl ha p
    refine ⟨_, (pss_one (ps_ret (pe_fld (pv 0) rfl))), ?_⟩
    refine ⟨_, rfl, a, _, dx, _, _, rfl, ha, T.cls (cl.has_gr s), T.np s, lk1s, ?_⟩
    exact k H t ws (Same.refl _) ht p'
theorem disp_inner (T : TParts K mg cl) : DispAt P w K mg base CX0 cl.has "inner" 1 ["self"] (spInner cl) := by
  refine ⟨fun C hC => ?_⟩
  rcases hC with rfl | rfl | rfl | rfl | rfl
  · exact ok_inner0 T (.inl rfl) T.m_inner_fx
  · exact ok_inner0 T (.inr rfl) T.m_inner_ct
  · exact ok_inner1 T T.m_inner_tn
  · exact ok_inner2 T true T.m_inner_sr
  · exact ok_inner2 T false T.m_inner_br
/-! ### size -/
def spSize (cl : Cl) (n : Nat) (C : Addr) : Sp := fun vs H Q _ => ∃ (a dx : Addr) (fs : List (Str × V)) (c : Cond), vs = [.ref a] ∧ H a = some (.ins C dx fs) ∧ IsP cl H (.ref a) c ∧ c.depth ≤ n ∧ c.size ≤ 1000 ∧
  ∀ (H' : Hp), Same H H' → Q (.int c.size) H'
theorem ok_size (T : TParts K mg cl) {n k : Nat} (G_size : DispAt P w K mg base CX0 cl.has "size" k ["self"] (spSize cl n)) (hk : 1 ≤ k) {C : Addr} (hC : cl.has C) (D : MethAt K C "size" "Part.size" s_Part_size ["self"]) :
    ∃ f fd, Cls K C ∧ Meth K C "size" f ∧ Binds K fd ["self"] [] ∧ FnOk P w K mg base CX0 (k + 1) f fd ["self"] (spSize cl (n + 1) C) := by
  have G_inner : DispAt P w K mg base CX0 cl.has "inner" 1 ["self"] (spInner cl) := disp_inner T
  refine methAt_ok (T.cls hC) D sc_Part_size (fun vs H Q E h => ?_) (fun f cdv A outer s H vs Q E hr h => ?_)
  · obtain ⟨a, dx, fs, c, rfl, _⟩ := h; rfl
  · obtain ⟨a, dx, fs, c, rfl, ha, p, hd, hz, q⟩ := h
    refine ⟨_, (pss_one (ps_ret (pe_op op_add pe_int (pe_callB (cr_sum rfl) (by rfl) T.z_sum (by decide +kernel) (pa_cons (pe_lc (own := [("part", 1)]) (g := gName 1) (tt := tYes) rfl sc_Part_size.nd (pi_tup (pe_methD0 G_inner hr pass0 (pv 0) hk)) (blkOk_by (own := [("part", 1)]) (N := ["self", "part"]) (sc := defScope s_Part_size) (by decide +kernel)) (fun _ _ _ _ _ => pg_name (i := 1) sc_Part_size.nd rfl (Or.inl rfl)) (fun _ _ _ _ _ => pts_nil) (fun _ _ _ _ _ => (pe_methD0 G_size hr pass0 (pv 1) (Nat.le_refl _)))) pa_nil))))), ?_⟩
    refine ⟨_, rfl, a, C, dx, fs, rfl, ha, hC, look_of (by decide +kernel) ha p, a, dx, fs, c, rfl, ha, p, fun H1 t ws s1 ht ps => ?_⟩
    have hlen := ps.length
    have hz2 : c.kids.length ≤ 1000 := by
      have h1 := Cond.len_sizes c.kids
      have h2 := c.size_kids
      omega
    refine ⟨t, rfl, ⟨_, SqT.of ht⟩, fun D nD => lc_tup (K := K) (a := t) (xs := ws) (fun i H' => Same H1 H' ∧ H' D = some (.lst ((c.kids.map fun c => V.int c.size).take i)))
      ⟨Same.new nD, upd_same⟩ (fun i H' _ q => SqT.of (q.1 _ _ ht)) ?_ ?_⟩
    · rintro i y H2 hy ⟨q1, q2⟩
      obtain ⟨c', hc', p'⟩ := (ps.mono (Same.imm q1)).at hy
      obtain ⟨a', C', dx', fs', rfl, ha', hC', hl'⟩ := meth_of (m := "size") (by decide +kernel) p'
      have hm := List.mem_of_getElem? hc'
      have h1 := Cond.depth_mem hm
      have h2 := Cond.size_mem hm
      have h3 := c.depth_kids
      have h4 := c.size_kids
      refine ⟨rfl, _, rfl, a', C', dx', fs', rfl, ha', hC', hl', a', dx', fs', c', rfl, ha', p', by omega, by omega, fun H3 s3 => ?_⟩
      exact lc_push (q1.trans s3) nD (s3 _ _ q2) (by rw [List.getElem?_map, hc']; rfl) (by rw [List.length_map]; omega)
    · rintro H2 ⟨q1, q2⟩
      rw [hlen, List.take_of_length_le (by simp)] at q2
      refine ⟨D, c.kids.map fun c => (c.size : Int), rfl, SqL.of ?_, _, _, rfl, rfl, ?_⟩
      · rw [q2, List.map_map]
        rfl
      · have e : (1 : Int) + (c.kids.map fun c => (c.size : Int)).sum = (c.size : Int) := by
          rw [sum_cast, Cond.size_kids, Cond.sizes_sum]
          omega
        show Q (V.int (1 + _)) _
        rw [e]
        exact q _ (s1.trans q1)
theorem disp_size (T : TParts K mg cl) : ∀ n : Nat, DispAt P w K mg base CX0 cl.has "size" (n + 1) ["self"] (spSize cl n)
  | 0 => by
    refine ⟨fun C hC => ?_⟩
    obtain ⟨f, fd, h1, h2, h3, h4⟩ := (disp_inner (P := P) (w := w) (base := base) T).ex C hC
    have D : MethAt K C "size" "Part.size" s_Part_size ["self"] := by
      rcases hC with rfl | rfl | rfl | rfl | rfl
      · exact T.m_size_fx
      · exact T.m_size_ct
      · exact T.m_size_tn
      · exact T.m_size_sr
      · exact T.m_size_br
    refine methAt_ok (T.cls hC) D sc_Part_size (fun vs H Q E h => ?_) (fun f cdv A outer s H vs Q E hr h => ?_)
    · obtain ⟨a, dx, fs, c, rfl, _⟩ := h; rfl
    · obtain ⟨a, dx, fs, c, rfl, ha, p, hd, _⟩ := h
      exact absurd c.depth_pos (by omega)
  | n + 1 => by
    refine ⟨fun C hC => ?_⟩
    have D : MethAt K C "size" "Part.size" s_Part_size ["self"] := by
      rcases hC with rfl | rfl | rfl | rfl | rfl
      · exact T.m_size_fx
      · exact T.m_size_ct
      · exact T.m_size_tn
      · exact T.m_size_sr
      · exact T.m_size_br
    exact ok_size T (disp_size T n) (by omega) hC D
/-! ### depth -/
def spDepth (cl : Cl) (n : Nat) (C : Addr) : Sp := fun vs H Q _ => ∃ (a dx : Addr) (fs : List (Str × V)) (c : Cond), vs = [.ref a] ∧ H a = some (.ins C dx fs) ∧ IsP cl H (.ref a) c ∧ c.depth ≤ n ∧ c.size ≤ 1000 ∧
  ∀ (H' : Hp), Same H H' → Q (.int c.depth) H'
theorem max_depths : ∀ (cs : List Cond) (m : Int), m ∈ (0 : Int) :: cs.map (fun c => (c.depth : Int)) → (∀ y, y ∈ (0 : Int) :: cs.map (fun c => (c.depth : Int)) → y ≤ m) → m = (Cond.depths cs : Int) := by
  have le : ∀ (cs : List Cond), ∃ y, y ∈ (0 : Int) :: cs.map (fun c => (c.depth : Int)) ∧ (Cond.depths cs : Int) ≤ y := by
    intro cs
    induction cs with
    | nil => exact ⟨0, List.mem_cons_self, by simp [Cond.depths]⟩
    | cons c cs ih =>
      obtain ⟨y, hy, hl⟩ := ih
      by_cases h : Cond.depths cs ≤ c.depth
      · exact ⟨c.depth, by simp, by rw [Cond.depths]; omega⟩
      · refine ⟨y, ?_, by rw [Cond.depths]; omega⟩
        rcases List.mem_cons.mp hy with rfl | hy
        · exact List.mem_cons_self
        · exact List.mem_cons_of_mem _ (List.mem_cons_of_mem _ hy)
  intro cs m hm hle
  obtain ⟨y, hy, hl⟩ := le cs
  have h1 := hle y hy
  have h2 : m ≤ (Cond.depths cs : Int) := by
    rcases List.mem_cons.mp hm with rfl | hm
    · omega
    · obtain ⟨c, hc, rfl⟩ := List.mem_map.mp hm
      have := Cond.depth_mem hc
      omega
  omega
theorem ok_depth (T : TParts K mg cl) {n k : Nat} (G_depth : DispAt P w K mg base CX0 cl.has "depth" k ["self"] (spDepth cl n)) (hk : 1 ≤ k) {C : Addr} (hC : cl.has C) (D : MethAt K C "depth" "Part.depth" s_Part_depth ["self"]) :
    ∃ f fd, Cls K C ∧ Meth K C "depth" f ∧ Binds K fd ["self"] [] ∧ FnOk P w K mg base CX0 (k + 1) f fd ["self"] (spDepth cl (n + 1) C) := by
  have G_inner : DispAt P w K mg base CX0 cl.has "inner" 1 ["self"] (spInner cl) := disp_inner T
  refine methAt_ok (T.cls hC) D sc_Part_depth (fun vs H Q E h => ?_) (fun f cdv A outer s H vs Q E hr h => ?_)
  · obtain ⟨a, dx, fs, c, rfl, _⟩ := h; rfl
  · obtain ⟨a, dx, fs, c, rfl, ha, p, hd, hz, q⟩ := h
    refine ⟨_, (pss_one (ps_ret (pe_op op_add pe_int (pe_callB (cr_max rfl) (by rfl) T.z_max (by decide +kernel) (pa_cons (pe_op op_cat (pe_lst (pa_cons pe_int pa_nil)) (pe_lc (own := [("part", 1)]) (g := gName 1) (tt := tYes) rfl sc_Part_depth.nd (pi_tup (pe_methD0 G_inner hr pass0 (pv 0) hk)) (blkOk_by (own := [("part", 1)]) (N := ["self", "part"]) (sc := defScope s_Part_depth) (by decide +kernel)) (fun _ _ _ _ _ => pg_name (i := 1) sc_Part_depth.nd rfl (Or.inl rfl)) (fun _ _ _ _ _ => pts_nil) (fun _ _ _ _ _ => (pe_methD0 G_depth hr pass0 (pv 1) (Nat.le_refl _))))) pa_nil))))), ?_⟩
    have hz2 : c.kids.length ≤ 1000 := by
      have h1 := Cond.len_sizes c.kids
      have h2 := c.size_kids
      omega
    refine ⟨line_ge (by decide), fun z nz => ?_⟩
    have ha0 : upd H z (.lst [.int 0]) a = some (.ins C dx fs) := Same.new nz _ _ ha
    have p0 : IsP cl (upd H z (.lst [.int 0])) (.ref a) c := p.mono (Imm.new nz)
    refine ⟨_, rfl, a, C, dx, fs, rfl, ha0, hC, look_of (by decide +kernel) ha p, a, dx, fs, c, rfl, ha0, p0, fun H1 t ws s1 ht ps => ?_⟩
    have hlen := ps.length
    refine ⟨t, rfl, ⟨_, SqT.of ht⟩, fun D nD => lc_tup (K := K) (a := t) (xs := ws) (fun i H' => Same H1 H' ∧ H' D = some (.lst ((c.kids.map fun c => V.int c.depth).take i)))
      ⟨Same.new nD, upd_same⟩ (fun i H' _ q => SqT.of (q.1 _ _ ht)) ?_ ?_⟩
    · rintro i y H2 hy ⟨q1, q2⟩
      obtain ⟨c', hc', p'⟩ := (ps.mono (Same.imm q1)).at hy
      obtain ⟨a', C', dx', fs', rfl, ha', hC', hl'⟩ := meth_of (m := "depth") (by decide +kernel) p'
      have hm := List.mem_of_getElem? hc'
      have h1 := Cond.depth_mem hm
      have h2 := Cond.size_mem hm
      have h3 := c.depth_kids
      have h4 := c.size_kids
      refine ⟨rfl, _, rfl, a', C', dx', fs', rfl, ha', hC', hl', a', dx', fs', c', rfl, ha', p', by omega, by omega, fun H3 s3 => ?_⟩
      exact lc_push (q1.trans s3) nD (s3 _ _ q2) (by rw [List.getElem?_map, hc']; rfl) (by rw [List.length_map]; omega)
    · rintro H2 ⟨q1, q2⟩
      rw [hlen, List.take_of_length_le (by simp)] at q2
      refine ⟨z, D, [.int 0], _, rfl, rfl, q1 _ _ (s1 _ _ upd_same), q2, line_ge (by simp; omega), fun y ny => ?_⟩
      refine ⟨y, (0 : Int) :: c.kids.map (fun c => (c.depth : Int)), rfl, SqL.of ?_, by simp, fun m hm hle => ?_⟩
      · rw [upd_same]
        simp [List.map_map, Function.comp_def]
      · have e := max_depths c.kids m hm hle
        refine ⟨_, _, rfl, rfl, ?_⟩
        have e2 : (1 : Int) + m = (c.depth : Int) := by
          rw [e, Cond.depth_kids]
          omega
        show Q (V.int (1 + m)) _
        rw [e2]
        exact q _ (((Same.new nz).trans (s1.trans q1)).trans (Same.new ny))
theorem disp_depth (T : TParts K mg cl) : ∀ n : Nat, DispAt P w K mg base CX0 cl.has "depth" (n + 1) ["self"] (spDepth cl n)
  | 0 => by
    refine ⟨fun C hC => ?_⟩
    have D : MethAt K C "depth" "Part.depth" s_Part_depth ["self"] := by
      rcases hC with rfl | rfl | rfl | rfl | rfl
      · exact T.m_depth_fx
      · exact T.m_depth_ct
      · exact T.m_depth_tn
      · exact T.m_depth_sr
      · exact T.m_depth_br
    refine methAt_ok (T.cls hC) D sc_Part_depth (fun vs H Q E h => ?_) (fun f cdv A outer s H vs Q E hr h => ?_)
    · obtain ⟨a, dx, fs, c, rfl, _⟩ := h; rfl
    · obtain ⟨a, dx, fs, c, rfl, ha, p, hd, _⟩ := h
      exact absurd c.depth_pos (by omega)
  | n + 1 => by
    refine ⟨fun C hC => ?_⟩
    have D : MethAt K C "depth" "Part.depth" s_Part_depth ["self"] := by
      rcases hC with rfl | rfl | rfl | rfl | rfl
      · exact T.m_depth_fx
      · exact T.m_depth_ct
      · exact T.m_depth_tn
      · exact T.m_depth_sr
      · exact T.m_depth_br
    exact ok_depth T (disp_depth T n) (by omega) hC D
/-! ### bounded: what is within the limits is let by -/
def spBounded (cl : Cl) (C : Addr) : Sp := fun vs H Q _ => ∃ (a dx : Addr) (fs : List (Str × V)) (c : Cond), vs = [.ref a] ∧ H a = some (.ins C dx fs) ∧ IsP cl H (.ref a) c ∧ c.depth ≤ 20 ∧ c.size ≤ 60 ∧
  ∀ (H' : Hp), Same H H' → Q .non H'
theorem disp_bounded (T : TParts K mg cl) : DispAt P w K mg base CX0 (fun C => C = cl.tn ∨ C = cl.sr ∨ C = cl.br) "bounded" 22 ["self"] (spBounded cl) := by
  have G_size : DispAt P w K mg base CX0 cl.has "size" 21 ["self"] (spSize cl 20) := disp_size T 20
  have G_depth : DispAt P w K mg base CX0 cl.has "depth" 21 ["self"] (spDepth cl 20) := disp_depth T 20
  refine ⟨fun C hC => ?_⟩
  have hC' : cl.has C := by
    rcases hC with rfl | rfl | rfl
    · exact .inr (.inr (.inl rfl))
    · exact .inr (.inr (.inr (.inl rfl)))
    · exact .inr (.inr (.inr (.inr rfl)))
  have D : MethAt K C "bounded" "Part.bounded" s_Part_bounded ["self"] := by
    rcases hC with rfl | rfl | rfl
    · exact T.m_bounded_tn
    · exact T.m_bounded_sr
    · exact T.m_bounded_br
  refine methAt_ok (T.cls hC') D sc_Part_bounded (fun vs H Q E h => ?_) (fun f cdv A outer s H vs Q E hr h => ?_)
  · obtain ⟨a, dx, fs, c, rfl, _⟩ := h; rfl
  · obtain ⟨a, dx, fs, c, rfl, ha, p, hd, hz, q⟩ := h
    refine ⟨_, (pss_one (ps_if (PW.pt (pw_or (pt_cmpR op_gt (pe_methD0 G_size hr pass0 (pv 0)) (pe_gc T.g_MOST_SIZE) (nomark _)) (pw_or1 (pt_cmpR op_gt (pe_methD0 G_depth hr pass0 (pv 0)) (pe_gc T.g_MOST_DEEP) (nomark _))))) (pss_one ps_never) pss_nil)), ?_⟩
    refine ⟨_, rfl, a, C, dx, fs, rfl, ha, hC', look_of (by decide +kernel) ha p, a, dx, fs, c, rfl, ha, p, hd, by omega, fun H1 s1 => ?_⟩
    refine ⟨_, _, rfl, rfl, _, rfl, ?_⟩
    rw [decide_eq_false (show ¬ (60 : Int) < (c.size : Int) by omega)]
    have ha1 := s1 _ _ ha
    have p1 := p.mono (Same.imm (T := cl.has) s1)
    refine iteF ⟨_, rfl, a, C, dx, fs, rfl, ha1, hC', look_of (by decide +kernel) ha p, a, dx, fs, c, rfl, ha1, p1, hd, by omega, fun H2 s2 => ?_⟩
    refine ⟨_, _, rfl, rfl, _, rfl, ?_⟩
    rw [decide_eq_false (show ¬ (20 : Int) < (c.depth : Int) by omega)]
    exact iteF (q _ (s1.trans s2))
end

--%% N3
/-! ## parts: made -/
abbrev s_Fixed___init__ : Stmt := inClass (top 57) 0
theorem sc_Fixed___init__ : FnScope ["self", "value"] ["self", "value"] (defScope s_Fixed___init__) := ⟨rfl, rfl, rfl, by decide +kernel, rfl, by decide +kernel, by decide +kernel⟩
abbrev s_Contact___init__ : Stmt := inClass (top 58) 0
theorem sc_Contact___init__ : FnScope ["self", "name"] ["self", "name"] (defScope s_Contact___init__) := ⟨rfl, rfl, rfl, by decide +kernel, rfl, by decide +kernel, by decide +kernel⟩
abbrev s_Turned___init__ : Stmt := inClass (top 59) 0
theorem sc_Turned___init__ : FnScope ["self", "part"] ["self", "part"] (defScope s_Turned___init__) := ⟨rfl, rfl, rfl, by decide +kernel, rfl, by decide +kernel, by decide +kernel⟩
abbrev s_Group___init__ : Stmt := inClass (top 60) 0
theorem sc_Group___init__ : FnScope ["self", "parts"] ["self", "parts"] (defScope s_Group___init__) := ⟨rfl, rfl, rfl, by decide +kernel, rfl, by decide +kernel, by decide +kernel⟩
structure TMake (K : PySem.W.Frag) (mg : Str → Option Value) (cl : Cl) : Prop where
  names : TNames K mg
  parts : TParts K mg cl
  i_fx : MethAt K cl.fx "__init__" "Fixed.__init__" s_Fixed___init__ ["self", "value"]
  i_ct : MethAt K cl.ct "__init__" "Contact.__init__" s_Contact___init__ ["self", "name"]
  i_tn : MethAt K cl.tn "__init__" "Turned.__init__" s_Turned___init__ ["self", "part"]
  i_sr : MethAt K cl.sr "__init__" "Group.__init__" s_Group___init__ ["self", "parts"]
  i_br : MethAt K cl.br "__init__" "Group.__init__" s_Group___init__ ["self", "parts"]
  z_len : mg "len" = none
  z_tuple : mg "tuple" = none
section
variable {P : Program} {w : World} {K : PySem.W.Frag} {mg : Str → Option Value} {base : Heap} {cl : Cl}
/-- a new instance and its dict: what was tracked stays -/
theorem same_make {H : Hp} {x dx C : Addr} {fs : List (Str × V)} (nx : H x = none) (nd : H dx = none) : Same H (upd (upd H dx (.own x)) x (.ins C dx fs)) := fun b o e => by
  rw [upd_ne (ne_of_none e nx), upd_ne (ne_of_none e nd)]
  exact e
def spInitFx (cl : Cl) : Sp := fun vs H Q _ => ∃ (x dx : Addr) (b : Bool), vs = [.ref x, .bl b] ∧ H x = some (.ins cl.fx dx []) ∧ ∀ H' : Hp, H' x = some (.ins cl.fx dx [("value", .bl b)]) → But x H H' → Q .non H'
def spInitCt (cl : Cl) : Sp := fun vs H Q _ => ∃ (x dx : Addr) (n : Str), vs = [.ref x, .str n] ∧ H x = some (.ins cl.ct dx []) ∧ n.length ≤ sizeLine ∧ isName n = true ∧ ∀ H' : Hp, H' x = some (.ins cl.ct dx [("name", .str n)]) → But x H H' → Q .non H'
def spInitTn (cl : Cl) : Sp := fun vs H Q _ => ∃ (H0 : Hp) (x dx : Addr) (v : V) (c : Cond), vs = [.ref x, v] ∧ H x = some (.ins cl.tn dx []) ∧ Same H0 H ∧ H0 x = none ∧ IsP cl H0 v c ∧ c.size ≤ 59 ∧ c.depth ≤ 19 ∧
  ∀ H' : Hp, Same H0 H' → IsP cl H' (.ref x) (.not c) → Q .non H'
def spInitGr (cl : Cl) (s : Bool) : Sp := fun vs H Q _ => ∃ (H0 : Hp) (x dx l : Addr) (ws : List V) (cs : List Cond), vs = [.ref x, .ref l] ∧ H x = some (.ins (cl.gr s) dx []) ∧ Same H0 H ∧ H0 x = none ∧ H0 l = some (.lst ws) ∧ IsPs cl H0 ws cs ∧ 2 ≤ cs.length ∧ Cond.sizes cs ≤ 59 ∧ Cond.depths cs ≤ 19 ∧
  ∀ H' : Hp, Same H0 H' → IsP cl H' (.ref x) (.grp s cs) → Q .non H'
theorem ok_init_fx (T : TMake K mg cl) : MakAt P w K mg base CX0 "Fixed" cl.fx 1 ["self", "value"] (spInitFx cl) := by
  refine makAt_of T.parts.c_Fixed (methAt_ok T.parts.c_Fixed.cl T.i_fx sc_Fixed___init__ (fun vs H Q E h => ?_) (fun f cdv A outer s H vs Q E hr h => ?_))
  · obtain ⟨x, dx, b, rfl, _⟩ := h; rfl
  · obtain ⟨x, dx, b, rfl, hx, q⟩ := h
    refine ⟨_, (pss_one (ps_fld (pv 0) (pv 1) rfl)), ?_⟩
    refine ⟨_, rfl, _, rfl, x, _, dx, [], rfl, hx, T.parts.c_Fixed.cl, T.parts.nv_fx, (by show 0 < 1000; decide), ?_⟩
    exact q _ upd_same But.upd
theorem ok_init_ct (T : TMake K mg cl) : MakAt P w K mg base CX0 "Contact" cl.ct 3 ["self", "name"] (spInitCt cl) := by
  have G_is_name : FnAt P w K mg base CX0 "is_name" 2 _ spIsName := ok_is_name T.names
  refine makAt_of T.parts.c_Contact (methAt_ok T.parts.c_Contact.cl T.i_ct sc_Contact___init__ (fun vs H Q E h => ?_) (fun f cdv A outer s H vs Q E hr h => ?_))
  · obtain ⟨x, dx, n, rfl, _⟩ := h; rfl
  · obtain ⟨x, dx, n, rfl, hx, hl, hn, q⟩ := h
    refine ⟨_, (pss_cons (ps_if (pt_not (pt_val (pe_callF G_is_name hr pass0 (pa_cons (pv 1) pa_nil)))) (pss_one ps_never) pss_nil)
        (pss_one (ps_fld (pv 0) (pv 1) rfl))), ?_⟩
    refine ⟨_, rfl, n, rfl, hl, ?_⟩
    rw [hn]
    refine ⟨true, rfl, iteF ?_⟩
    refine ⟨_, rfl, _, rfl, x, _, dx, [], rfl, hx, T.parts.c_Contact.cl, T.parts.nn_ct, (by show 0 < 1000; decide), ?_⟩
    exact q _ upd_same But.upd
theorem ok_init_tn (T : TMake K mg cl) : MakAt P w K mg base CX0 "Turned" cl.tn 23 ["self", "part"] (spInitTn cl) := by
  have G_bounded : DispAt P w K mg base CX0 (fun C => C = cl.tn ∨ C = cl.sr ∨ C = cl.br) "bounded" 22 ["self"] (spBounded cl) := disp_bounded T.parts
  refine makAt_of T.parts.c_Turned (methAt_ok T.parts.c_Turned.cl T.i_tn sc_Turned___init__ (fun vs H Q E h => ?_) (fun f cdv A outer s H vs Q E hr h => ?_))
  · obtain ⟨H0, x, dx, v, c, rfl, _⟩ := h; rfl
  · obtain ⟨H0, x, dx, v, c, rfl, hx, s0, n0, p, hz, hd, q⟩ := h
    refine ⟨_, (pss_cons (ps_fld (pv 0) (pv 1) rfl)
        (pss_one (ps_expr (pe_methD0 G_bounded hr pass0 (pv 0))))), ?_⟩
    refine ⟨_, rfl, _, rfl, x, _, dx, [], rfl, hx, T.parts.c_Turned.cl, T.parts.np_tn, (by show 0 < 1000; decide), ?_⟩
    have s1 : Same H0 (upd H x (.ins cl.tn dx (putF "part" v []))) := Same.mut s0 n0
    have p1 : IsP cl (upd H x (.ins cl.tn dx (putF "part" v []))) (.ref x) (.not c) := .not upd_same (p.mono (Same.imm s1))
    refine ⟨_, rfl, x, _, dx, _, rfl, upd_same, .inl rfl, lk1 (by decide +kernel), x, dx, _, .not c, rfl, upd_same, p1, ?_, ?_, fun H2 s2 => ?_⟩
    · rw [Cond.depth]; omega
    · rw [Cond.size]; omega
    · exact q _ (s1.trans s2) (p1.mono (Same.imm s2))
theorem ok_init_gr (T : TMake K mg cl) (s : Bool) {nm : Str} (c : ClsAt K mg nm (cl.gr s)) (D : MethAt K (cl.gr s) "__init__" "Group.__init__" s_Group___init__ ["self", "parts"]) : MakAt P w K mg base CX0 nm (cl.gr s) 23 ["self", "parts"] (spInitGr cl s) := by
  have G_bounded : DispAt P w K mg base CX0 (fun C => C = cl.tn ∨ C = cl.sr ∨ C = cl.br) "bounded" 22 ["self"] (spBounded cl) := disp_bounded T.parts
  refine makAt_of c (methAt_ok c.cl D sc_Group___init__ (fun vs H Q E h => ?_) (fun f cdv A outer st H vs Q E hr h => ?_))
  · obtain ⟨H0, x, dx, l, ws, cs, rfl, _⟩ := h; rfl
  · obtain ⟨H0, x, dx, l, ws, cs, rfl, hx, s0, n0, hl, ps, h2, hz, hd, q⟩ := h
    have hlen := ps.length
    refine ⟨_, (pss_cons (ps_if (pt_cmpR op_lt (pe_callB call_len_seq (by rfl) T.z_len PySem.boot_len (pa_cons (pv 1) pa_nil)) pe_int (nomark _)) (pss_one ps_never) pss_nil)
        (pss_cons (ps_fld (pv 0) (pe_callTy call_tuple_of (by rfl) T.z_tuple (show PySem.bootBuiltins "tuple" = some (.type "tuple") by decide +kernel) (pa_cons (pv 1) pa_nil)) rfl)
        (pss_one (ps_expr (pe_methD0 G_bounded hr pass0 (pv 0)))))), ?_⟩
    refine ⟨_, rfl, l, ws, rfl, .inl (SqL.of (s0 _ _ hl)), _, _, rfl, rfl, _, rfl, ?_⟩
    rw [decide_eq_false (show ¬ ((ws.length : Int) < 2) by omega)]
    refine iteF ⟨_, rfl, l, ws, rfl, .inl ⟨SqL.of (s0 _ _ hl), fun t nt => ?_⟩⟩
    have hx1 : upd H t (.tup ws) x = some (.ins (cl.gr s) dx []) := Same.new nt _ _ hx
    have ntx : t ≠ x := (ne_of_none hx nt).symm
    refine ⟨_, rfl, x, _, dx, [], rfl, hx1, T.parts.cls (cl.has_gr s), T.parts.np s, (by show 0 < 1000; decide), ?_⟩
    have s1 : Same H0 (upd (upd H t (.tup ws)) x (.ins (cl.gr s) dx (putF "parts" (.ref t) []))) := Same.mut (s0.trans (Same.new nt)) n0
    have p1 : IsP cl (upd (upd H t (.tup ws)) x (.ins (cl.gr s) dx (putF "parts" (.ref t) []))) (.ref x) (.grp s cs) := .grp upd_same (by rw [upd_ne ntx, upd_same]) (ps.mono (Same.imm s1))
    refine ⟨_, rfl, x, _, dx, _, rfl, upd_same, (by cases s; exact .inr (.inr rfl); exact .inr (.inl rfl)), lk1 (by decide +kernel), x, dx, _, .grp s cs, rfl, upd_same, p1, ?_, ?_, fun H2 s2 => ?_⟩
    · rw [Cond.depth]; omega
    · rw [Cond.size]; omega
    · exact q _ (s1.trans s2) (p1.mono (Same.imm s2))
/-! ### what making asks -/
theorem mk_fx {H : Hp} {b : Bool} {Q : VK} {E : XK} (k : ∀ H' x, Same H H' → IsP cl H' (.ref x) (.fixed b) → Q (.ref x) H') : ∀ x dx, H x = none → H dx = none → dx ≠ x → spInitFx cl (.ref x :: ([.bl b] ++ [])) (upd (upd H dx (.own x)) x (.ins cl.fx dx [])) (fun v H' => v = .non ∧ Q (.ref x) H') E :=
  fun x dx nx nd ne => ⟨x, dx, b, rfl, upd_same, fun H' h1 h2 => ⟨rfl, k H' x (fun c o e => h2 c o (same_make nx nd c o e) (ne_of_none e nx)) (.fixed h1)⟩⟩
theorem mk_ct {H : Hp} {n : Str} {Q : VK} {E : XK} (hl : n.length ≤ sizeLine) (hn : isName n = true) (k : ∀ H' x, Same H H' → IsP cl H' (.ref x) (.contact n) → Q (.ref x) H') : ∀ x dx, H x = none → H dx = none → dx ≠ x → spInitCt cl (.ref x :: ([.str n] ++ [])) (upd (upd H dx (.own x)) x (.ins cl.ct dx [])) (fun v H' => v = .non ∧ Q (.ref x) H') E :=
  fun x dx nx nd ne => ⟨x, dx, n, rfl, upd_same, hl, hn, fun H' h1 h2 => ⟨rfl, k H' x (fun c o e => h2 c o (same_make nx nd c o e) (ne_of_none e nx)) (.contact h1)⟩⟩
theorem mk_tn {H : Hp} {v : V} {c : Cond} {Q : VK} {E : XK} (p : IsP cl H v c) (hz : c.size ≤ 59) (hd : c.depth ≤ 19) (k : ∀ H' x, Same H H' → IsP cl H' (.ref x) (.not c) → Q (.ref x) H') : ∀ x dx, H x = none → H dx = none → dx ≠ x → spInitTn cl (.ref x :: ([v] ++ [])) (upd (upd H dx (.own x)) x (.ins cl.tn dx [])) (fun v H' => v = .non ∧ Q (.ref x) H') E :=
  fun x dx nx nd ne => ⟨H, x, dx, v, c, rfl, upd_same, same_make nx nd, nx, p, hz, hd, fun H' h1 h2 => ⟨rfl, k H' x h1 h2⟩⟩
theorem mk_gr {H : Hp} {s : Bool} {l : Addr} {ws : List V} {cs : List Cond} {Q : VK} {E : XK} (hl : H l = some (.lst ws)) (p : IsPs cl H ws cs) (h2 : 2 ≤ cs.length) (hz : Cond.sizes cs ≤ 59) (hd : Cond.depths cs ≤ 19) (k : ∀ H' x, Same H H' → IsP cl H' (.ref x) (.grp s cs) → Q (.ref x) H') :
    ∀ x dx, H x = none → H dx = none → dx ≠ x → spInitGr cl s (.ref x :: ([.ref l] ++ [])) (upd (upd H dx (.own x)) x (.ins (cl.gr s) dx [])) (fun v H' => v = .non ∧ Q (.ref x) H') E :=
  fun x dx nx nd ne => ⟨H, x, dx, l, ws, cs, rfl, upd_same, same_make nx nd, nx, hl, p, h2, hz, hd, fun H' h1 h2 => ⟨rfl, k H' x h1 h2⟩⟩
end

/-! ## told -/
mutual
/-- at v stands the tuple that c tells -/
inductive IsT (H : Hp) : V → Cond → Prop
  | fixed {a : Addr} {b : Bool} (h : H a = some (.tup [.str "fixed", .bl b])) : IsT H (.ref a) (.fixed b)
  | contact {a : Addr} {n : Str} (h : H a = some (.tup [.str "contact", .str n])) : IsT H (.ref a) (.contact n)
  | not {a : Addr} {v : V} {c : Cond} (h : H a = some (.tup [.str "not", v])) (p : IsT H v c) : IsT H (.ref a) (.not c)
  | grp {a : Addr} {vs : List V} {s : Bool} {cs : List Cond} (h : H a = some (.tup (.str (word s) :: vs))) (p : IsTs H vs cs) : IsT H (.ref a) (.grp s cs)
inductive IsTs (H : Hp) : List V → List Cond → Prop
  | nil : IsTs H [] []
  | cons {v : V} {vs : List V} {c : Cond} {cs : List Cond} (h : IsT H v c) (t : IsTs H vs cs) : IsTs H (v :: vs) (c :: cs)
end
section
variable {T : Addr → Prop} {K : PySem.W.Frag} {H H' : Hp} {v : V} {vs : List V} {c : Cond} {cs : List Cond}
mutual
theorem IsT.mono (k : Imm T H H') : ∀ {v : V} {c : Cond}, IsT H v c → IsT H' v c
  | _, _, .fixed h => .fixed (k _ _ h trivial)
  | _, _, .contact h => .contact (k _ _ h trivial)
  | _, _, .not h p => .not (k _ _ h trivial) (p.mono k)
  | _, _, .grp h p => .grp (k _ _ h trivial) (p.mono k)
theorem IsTs.mono (k : Imm T H H') : ∀ {vs : List V} {cs : List Cond}, IsTs H vs cs → IsTs H' vs cs
  | _, _, .nil => .nil
  | _, _, .cons p t => .cons (p.mono k) (t.mono k)
end
mutual
theorem IsT.dp : ∀ {v : V} {c : Cond}, IsT H v c → Dp K H v c.told
  | _, _, .fixed h => .tup (SqT.of h) (.cons (.str _) (.cons (.bl _) .nil))
  | _, _, .contact h => .tup (SqT.of h) (.cons (.str _) (.cons (.str _) .nil))
  | _, _, .not h p => .tup (SqT.of h) (.cons (.str _) (.cons p.dp .nil))
  | _, _, .grp h p => .tup (SqT.of h) (.cons (.str _) p.dp)
theorem IsTs.dp : ∀ {vs : List V} {cs : List Cond}, IsTs H vs cs → DpAll K H vs (Cond.tolds cs)
  | _, _, .nil => .nil
  | _, _, .cons p t => .cons p.dp t.dp
end
theorem IsTs.length : ∀ {vs : List V} {cs : List Cond}, IsTs H vs cs → vs.length = cs.length
  | _, _, .nil => rfl
  | _, _, .cons _ t => by rw [List.length_cons, List.length_cons, IsTs.length t]
theorem IsTs.at : ∀ {vs : List V} {cs : List Cond} {i : Nat} {v : V}, IsTs H vs cs → vs[i]? = some v → ∃ c, cs[i]? = some c ∧ IsT H v c
  | _, _, i, v, .nil, h => by simp at h
  | _, _, 0, v, .cons p t, h => by
    simp at h
    subst h
    exact ⟨_, rfl, p⟩
  | _, _, i + 1, v, .cons p t, h => by
    obtain ⟨c, h1, h2⟩ := IsTs.at (i := i) (v := v) t (by simpa using h)
    exact ⟨c, by simpa using h1, h2⟩
theorem IsTs.snoc : ∀ {vs : List V} {cs : List Cond} {v : V} {c : Cond}, IsTs H vs cs → IsT H v c → IsTs H (vs ++ [v]) (cs ++ [c])
  | _, _, _, _, .nil, p => .cons p .nil
  | _, _, _, _, .cons q t, p => .cons q (t.snoc p)
theorem IsT.ref (p : IsT H v c) : ∃ a xs, v = .ref a ∧ H a = some (.tup xs) := by
  cases p with
  | fixed h => exact ⟨_, _, rfl, h⟩
  | contact h => exact ⟨_, _, rfl, h⟩
  | not h _ => exact ⟨_, _, rfl, h⟩
  | grp h _ => exact ⟨_, _, rfl, h⟩
end
theorem IsTs.take {H : Hp} : ∀ {vs : List V} {cs : List Cond} (n : Nat), IsTs H vs cs → IsTs H (vs.take n) (cs.take n)
  | _, _, 0, _ => .nil
  | _, _, _ + 1, .nil => .nil
  | _, _, n + 1, .cons p t => .cons p (IsTs.take n t)
theorem IsTs.drop {H : Hp} : ∀ {vs : List V} {cs : List Cond} (n : Nat), IsTs H vs cs → IsTs H (vs.drop n) (cs.drop n)
  | _, _, 0, p => p
  | _, _, _ + 1, .nil => .nil
  | _, _, n + 1, .cons p t => IsTs.drop n t
theorem IsTs.app {H : Hp} : ∀ {vs ws : List V} {cs ds : List Cond}, IsTs H vs cs → IsTs H ws ds → IsTs H (vs ++ ws) (cs ++ ds)
  | _, _, _, _, .nil, q => q
  | _, _, _, _, .cons p t, q => .cons p (t.app q)
theorem IsTs.reverse {H : Hp} : ∀ {vs : List V} {cs : List Cond}, IsTs H vs cs → IsTs H vs.reverse cs.reverse
  | _, _, .nil => .nil
  | _, _, .cons p t => by
    rw [List.reverse_cons, List.reverse_cons]
    exact (IsTs.reverse t).snoc p
abbrev s_Fixed_told : Stmt := inClass (top 57) 2
theorem sc_Fixed_told : FnScope ["self"] ["self"] (defScope s_Fixed_told) := ⟨rfl, rfl, rfl, by decide +kernel, rfl, by decide +kernel, by decide +kernel⟩
abbrev s_Contact_told : Stmt := inClass (top 58) 2
theorem sc_Contact_told : FnScope ["self"] ["self"] (defScope s_Contact_told) := ⟨rfl, rfl, rfl, by decide +kernel, rfl, by decide +kernel, by decide +kernel⟩
abbrev s_Turned_told : Stmt := inClass (top 59) 3
theorem sc_Turned_told : FnScope ["self"] ["self"] (defScope s_Turned_told) := ⟨rfl, rfl, rfl, by decide +kernel, rfl, by decide +kernel, by decide +kernel⟩
abbrev s_Group_told : Stmt := inClass (top 60) 4
theorem sc_Group_told : FnScope ["self", "part"] ["self"] (defScope s_Group_told) := ⟨rfl, rfl, rfl, by decide +kernel, rfl, by decide +kernel, by decide +kernel⟩
abbrev s_Series_word : Stmt := inClass (top 61) 1
theorem sc_Series_word : FnScope ["self"] ["self"] (defScope s_Series_word) := ⟨rfl, rfl, rfl, by decide +kernel, rfl, by decide +kernel, by decide +kernel⟩
abbrev s_Branch_word : Stmt := inClass (top 62) 1
theorem sc_Branch_word : FnScope ["self"] ["self"] (defScope s_Branch_word) := ⟨rfl, rfl, rfl, by decide +kernel, rfl, by decide +kernel, by decide +kernel⟩
structure TTold (K : PySem.W.Frag) (mg : Str → Option Value) (cl : Cl) : Prop where
  parts : TParts K mg cl
  m_told_fx : MethAt K cl.fx "told" "Fixed.told" s_Fixed_told ["self"]
  m_told_ct : MethAt K cl.ct "told" "Contact.told" s_Contact_told ["self"]
  m_told_tn : MethAt K cl.tn "told" "Turned.told" s_Turned_told ["self"]
  m_told_sr : MethAt K cl.sr "told" "Group.told" s_Group_told ["self"]
  m_told_br : MethAt K cl.br "told" "Group.told" s_Group_told ["self"]
  m_word_sr : MethAt K cl.sr "word" "Series.word" s_Series_word ["self"]
  m_word_br : MethAt K cl.br "word" "Branch.word" s_Branch_word ["self"]
  z_tuple : mg "tuple" = none
section
variable {P : Program} {w : World} {K : PySem.W.Frag} {mg : Str → Option Value} {base : Heap} {cl : Cl}
def Cl.grp (cl : Cl) (C : Addr) : Prop := C = cl.sr ∨ C = cl.br
theorem Cl.grp_gr (cl : Cl) (s : Bool) : cl.grp (cl.gr s) := by
  cases s
  · exact .inr rfl
  · exact .inl rfl
theorem TParts.srbr (T : TParts K mg cl) : cl.sr ≠ cl.br := by
  have nd := T.nd
  simp only [List.nodup_cons, List.mem_cons, List.not_mem_nil, or_false, not_or] at nd
  exact nd.2.2.2.1
def spWordM (cl : Cl) (C : Addr) : Sp := fun vs H Q _ => ∃ (a dx : Addr) (fs : List (Str × V)) (s : Bool), vs = [.ref a] ∧ H a = some (.ins C dx fs) ∧ C = cl.gr s ∧ Q (.str (word s)) H
theorem disp_word (T : TTold K mg cl) : DispAt P w K mg base CX0 cl.grp "word" 1 ["self"] (spWordM cl) := by
  refine ⟨fun C hC => ?_⟩
  rcases hC with rfl | rfl
  · refine methAt_ok T.parts.c_Series.cl T.m_word_sr sc_Series_word (fun vs H Q E h => ?_) (fun f cdv A outer st H vs Q E hr h => ?_)
    · obtain ⟨a, dx, fs, s, rfl, _⟩ := h; rfl
    · obtain ⟨a, dx, fs, s, rfl, ha, hs, q⟩ := h
      refine ⟨_, (pss_one (ps_ret pe_str)), ?_⟩
      cases s
      · exact absurd hs T.parts.srbr
      · exact q
  · refine methAt_ok T.parts.c_Branch.cl T.m_word_br sc_Branch_word (fun vs H Q E h => ?_) (fun f cdv A outer st H vs Q E hr h => ?_)
    · obtain ⟨a, dx, fs, s, rfl, _⟩ := h; rfl
    · obtain ⟨a, dx, fs, s, rfl, ha, hs, q⟩ := h
      refine ⟨_, (pss_one (ps_ret pe_str)), ?_⟩
      cases s
      · exact q
      · exact absurd hs.symm T.parts.srbr
def spTold (cl : Cl) (n : Nat) (C : Addr) : Sp := fun vs H Q _ => ∃ (a dx : Addr) (fs : List (Str × V)) (c : Cond), vs = [.ref a] ∧ H a = some (.ins C dx fs) ∧ IsP cl H (.ref a) c ∧ c.depth ≤ n ∧ c.size ≤ 1000 ∧
  ∀ (H' : Hp) (v : V), Same H H' → IsT H' v c → Q v H'
theorem ok_told_fx (T : TTold K mg cl) (n : Nat) : ∃ f fd, Cls K cl.fx ∧ Meth K cl.fx "told" f ∧ Binds K fd ["self"] [] ∧ FnOk P w K mg base CX0 1 f fd ["self"] (spTold cl n cl.fx) := by
  refine methAt_ok T.parts.c_Fixed.cl T.m_told_fx sc_Fixed_told (fun vs H Q E h => ?_) (fun f cdv A outer st H vs Q E hr h => ?_)
  · obtain ⟨a, dx, fs, c, rfl, _⟩ := h; rfl
  · obtain ⟨a, dx, fs, c, rfl, ha, p, hd, hz, q⟩ := h
    obtain ⟨b, rfl, rfl⟩ := inv_fx T.parts.nd ha p
    refine ⟨_, (pss_one (ps_ret (pe_tup (pa_cons pe_str (pa_cons (pe_fld (pv 0) rfl) pa_nil))))), ?_⟩
    refine ⟨_, rfl, a, _, dx, _, _, rfl, ha, T.parts.c_Fixed.cl, T.parts.nv_fx, lk1s, line_ge (by simp), fun t nt => ?_⟩
    exact q _ _ (Same.new nt) (.fixed upd_same)
theorem ok_told_ct (T : TTold K mg cl) (n : Nat) : ∃ f fd, Cls K cl.ct ∧ Meth K cl.ct "told" f ∧ Binds K fd ["self"] [] ∧ FnOk P w K mg base CX0 1 f fd ["self"] (spTold cl n cl.ct) := by
  refine methAt_ok T.parts.c_Contact.cl T.m_told_ct sc_Contact_told (fun vs H Q E h => ?_) (fun f cdv A outer st H vs Q E hr h => ?_)
  · obtain ⟨a, dx, fs, c, rfl, _⟩ := h; rfl
  · obtain ⟨a, dx, fs, c, rfl, ha, p, hd, hz, q⟩ := h
    obtain ⟨b, rfl, rfl⟩ := inv_ct T.parts.nd ha p
    refine ⟨_, (pss_one (ps_ret (pe_tup (pa_cons pe_str (pa_cons (pe_fld (pv 0) rfl) pa_nil))))), ?_⟩
    refine ⟨_, rfl, a, _, dx, _, _, rfl, ha, T.parts.c_Contact.cl, T.parts.nn_ct, lk1s, line_ge (by simp), fun t nt => ?_⟩
    exact q _ _ (Same.new nt) (.contact upd_same)
theorem ok_told_tn (T : TTold K mg cl) {n k : Nat} (G_told : DispAt P w K mg base CX0 cl.has "told" k ["self"] (spTold cl n)) :
    ∃ f fd, Cls K cl.tn ∧ Meth K cl.tn "told" f ∧ Binds K fd ["self"] [] ∧ FnOk P w K mg base CX0 (k + 1) f fd ["self"] (spTold cl (n + 1) cl.tn) := by
  refine methAt_ok T.parts.c_Turned.cl T.m_told_tn sc_Turned_told (fun vs H Q E h => ?_) (fun f cdv A outer st H vs Q E hr h => ?_)
  · obtain ⟨a, dx, fs, c, rfl, _⟩ := h; rfl
  · obtain ⟨a, dx, fs, c, rfl, ha, p, hd, hz, q⟩ := h
    obtain ⟨v, c', rfl, rfl, p'⟩ := inv_tn T.parts.nd ha p
    rw [Cond.depth] at hd
    rw [Cond.size] at hz
    refine ⟨_, (pss_one (ps_ret (pe_tup (pa_cons pe_str (pa_cons (pe_methD0 G_told hr pass0 (pe_fld (pv 0) rfl) (Nat.le_refl _)) pa_nil))))), ?_⟩
    obtain ⟨a', C', dx', fs', rfl, ha', hC', hl'⟩ := meth_of (m := "told") (by decide +kernel) p'
    refine ⟨_, rfl, a, _, dx, _, _, rfl, ha, T.parts.c_Turned.cl, T.parts.np_tn, lk1s, a', C', dx', fs', rfl, ha', hC', hl', a', dx', fs', c', rfl, ha', p', by omega, by omega, fun H1 v s1 ht => ?_⟩
    refine ⟨line_ge (by simp), fun t nt => ?_⟩
    exact q _ _ (s1.trans (Same.new nt)) (.not upd_same (ht.mono (T := cl.has) (Imm.new nt)))
theorem ok_told_gr (T : TTold K mg cl) {n k : Nat} (G_told : DispAt P w K mg base CX0 cl.has "told" k ["self"] (spTold cl n)) (hk : 1 ≤ k) (s : Bool) (D : MethAt K (cl.gr s) "told" "Group.told" s_Group_told ["self"]) :
    ∃ f fd, Cls K (cl.gr s) ∧ Meth K (cl.gr s) "told" f ∧ Binds K fd ["self"] [] ∧ FnOk P w K mg base CX0 (k + 1) f fd ["self"] (spTold cl (n + 1) (cl.gr s)) := by
  have G_word : DispAt P w K mg base CX0 cl.grp "word" 1 ["self"] (spWordM cl) := disp_word T
  refine methAt_ok (T.parts.cls (cl.has_gr s)) D sc_Group_told (fun vs H Q E h => ?_) (fun f cdv A outer st H vs Q E hr h => ?_)
  · obtain ⟨a, dx, fs, c, rfl, _⟩ := h; rfl
  · obtain ⟨a, dx, fs, c, rfl, ha, p, hd, hz, q⟩ := h
    obtain ⟨t, ws, cs, rfl, rfl, ht, ps⟩ := inv_gr T.parts.nd rfl ha p
    rw [Cond.depth] at hd
    rw [Cond.size] at hz
    have hlen := ps.length
    have hz2 := Cond.len_sizes cs
    refine ⟨_, (pss_one (ps_ret (pe_op op_catT (pe_tup (pa_cons (pe_methD0 G_word hr pass0 (pv 0) hk) pa_nil)) (pe_callTy call_tuple_of (by rfl) T.z_tuple (show PySem.bootBuiltins "tuple" = some (.type "tuple") by decide +kernel) (pa_cons (pe_lc (own := [("part", 1)]) (g := gName 1) (tt := tYes) rfl sc_Group_told.nd (pi_tup (pe_fld (pv 0) rfl)) (blkOk_by (own := [("part", 1)]) (N := ["self", "part"]) (sc := defScope s_Group_told) (by decide +kernel)) (fun _ _ _ _ _ => pg_name (i := 1) sc_Group_told.nd rfl (Or.inl rfl)) (fun _ _ _ _ _ => pts_nil) (fun _ _ _ _ _ => (pe_methD0 G_told hr pass0 (pv 1) (Nat.le_refl _)))) pa_nil))))), ?_⟩
    refine ⟨_, rfl, a, _, dx, _, rfl, ha, cl.grp_gr s, lk1 (by decide +kernel), a, dx, _, s, rfl, ha, rfl, line_ge (by simp), fun t1 nt1 => ?_⟩
    have ha1 := Same.new nt1 (o := .tup [.str (word s)]) _ _ ha
    refine ⟨_, rfl, a, _, dx, _, _, rfl, ha1, T.parts.cls (cl.has_gr s), T.parts.np s, lk1s, ?_⟩
    have ht1 := Same.new nt1 (o := .tup [.str (word s)]) _ _ ht
    refine ⟨t, rfl, ⟨_, SqT.of ht1⟩, fun D nD => lc_tup (K := K) (a := t) (xs := ws) (fun i H' => Same (upd H t1 (.tup [.str (word s)])) H' ∧ ∃ vs, H' D = some (.lst vs) ∧ IsTs H' vs (cs.take i))
      ⟨Same.new nD, [], upd_same, by simpa using .nil⟩ (fun i H' _ q => SqT.of (q.1 _ _ ht1)) ?_ ?_⟩
    · rintro i y H2 hy ⟨q1, vs, q2, q3⟩
      obtain ⟨c', hc', p'⟩ := (ps.mono (Same.imm ((Same.new nt1).trans q1))).at hy
      obtain ⟨a', C', dx', fs', rfl, ha', hC', hl'⟩ := meth_of (m := "told") (by decide +kernel) p'
      have hm := List.mem_of_getElem? hc'
      have h1 := Cond.depth_mem hm
      have h2 := Cond.size_mem hm
      refine ⟨rfl, _, rfl, a', C', dx', fs', rfl, ha', hC', hl', a', dx', fs', c', rfl, ha', p', by omega, by omega, fun H3 v s3 hv => ?_⟩
      have q2' := s3 _ _ q2
      have hl := q3.length
      rw [List.length_take] at hl
      refine ⟨vs, q2', by rw [sizeLine_eq]; omega, Same.mut (q1.trans s3) nD, vs ++ [v], upd_same, ?_⟩
      have im : Imm cl.has H3 (upd H3 D (.lst (vs ++ [v]))) := Imm.mut q2' id
      rw [List.take_succ, hc']
      exact ((q3.mono (T := cl.has) (Same.imm s3)).mono im).snoc (hv.mono im)
    · rintro H2 ⟨q1, vs, q2, q3⟩
      rw [hlen, List.take_of_length_le (Nat.le_refl _)] at q3
      have hl := q3.length
      refine ⟨D, vs, rfl, .inl ⟨SqL.of q2, fun t2 nt2 => ?_⟩⟩
      have h1 : upd H2 t2 (.tup vs) t1 = some (.tup [.str (word s)]) := Same.new nt2 _ _ (q1 _ _ upd_same)
      have s2 : Same H (upd H2 t2 (.tup vs)) := ((Same.new nt1).trans q1).trans (Same.new nt2)
      have q4 : IsTs (upd H2 t2 (.tup vs)) vs cs := q3.mono (T := cl.has) (Imm.new nt2)
      refine ⟨t1, t2, _, _, rfl, rfl, SqT.of h1, SqT.of upd_same, by simp, line_ge (by simp; omega), fun e => ?_, fun _ t3 nt3 => ?_⟩
      · subst e
        have q4' := q4
        cases q4'
        exact q _ _ s2 (.grp h1 .nil)
      · exact q _ _ (s2.trans (Same.new nt3)) (.grp upd_same (q4.mono (T := cl.has) (Imm.new nt3)))
theorem disp_told (T : TTold K mg cl) : ∀ n : Nat, DispAt P w K mg base CX0 cl.has "told" (n + 1) ["self"] (spTold cl n)
  | 0 => by
    refine ⟨fun C hC => ?_⟩
    have vac : ∀ C vs H Q E, spTold cl 0 C vs H Q E → False := by
      rintro C vs H Q E ⟨a, dx, fs, c, rfl, ha, p, hd, _⟩
      exact absurd c.depth_pos (by omega)
    rcases hC with rfl | rfl | rfl | rfl | rfl
    · exact ok_told_fx T 0
    · exact ok_told_ct T 0
    all_goals
      refine methAt_ok (T.parts.cls (by simp [Cl.has])) (by first | exact T.m_told_tn | exact T.m_told_sr | exact T.m_told_br) (by first | exact sc_Turned_told | exact sc_Group_told) (fun vs H Q E h => (vac _ _ _ _ _ h).elim) (fun f cdv A outer s H vs Q E hr h => (vac _ _ _ _ _ h).elim)
  | n + 1 => by
    have ih := disp_told T n
    refine ⟨fun C hC => ?_⟩
    rcases hC with rfl | rfl | rfl | rfl | rfl
    · obtain ⟨f, fd, h1, h2, h3, h4⟩ := ok_told_fx (P := P) (w := w) (base := base) T (n + 1)
      exact ⟨f, fd, h1, h2, h3, h4.mono (by omega)⟩
    · obtain ⟨f, fd, h1, h2, h3, h4⟩ := ok_told_ct (P := P) (w := w) (base := base) T (n + 1)
      exact ⟨f, fd, h1, h2, h3, h4.mono (by omega)⟩
    · exact ok_told_tn T ih
    · exact ok_told_gr T ih (by omega) true T.m_told_sr
    · exact ok_told_gr T ih (by omega) false T.m_told_br
end

/-! ## part_of -/
abbrev s_single : Stmt := top 64
theorem sc_single : FnScope ["told"] ["told"] (defScope s_single) := ⟨rfl, rfl, rfl, by decide +kernel, rfl, by decide +kernel, by decide +kernel⟩
abbrev s_joined : Stmt := top 65
theorem sc_joined : FnScope ["kind", "parts"] ["kind", "parts"] (defScope s_joined) := ⟨rfl, rfl, rfl, by decide +kernel, rfl, by decide +kernel, by decide +kernel⟩
abbrev s_part_of : Stmt := top 66
theorem sc_part_of : FnScope ["told", "opened", "found", "one", "parts", "is_single"] ["told"] (defScope s_part_of) := ⟨rfl, rfl, rfl, by decide +kernel, rfl, by decide +kernel, by decide +kernel⟩
structure TPartOf (K : PySem.W.Frag) (mg : Str → Option Value) (cl : Cl) : Prop where
  make : TMake K mg cl
  d_single : DefAt K mg "single" s_single ["told"]
  d_joined : DefAt K mg "joined" s_joined ["kind", "parts"]
  d_part_of : DefAt K mg "part_of" s_part_of ["told"]
  z_len : mg "len" = none
mutual
/-- names are names, groups have two parts or more -/
def Cond.ok : Cond → Bool
  | .fixed _ => true
  | .contact n => isName n
  | .not c => c.ok
  | .grp _ cs => decide (2 ≤ cs.length) && Cond.oks cs
def Cond.oks : List Cond → Bool
  | [] => true
  | c :: cs => c.ok && Cond.oks cs
end
theorem Cond.oks_mem : ∀ {cs : List Cond} {c : Cond}, Cond.oks cs = true → c ∈ cs → c.ok = true
  | x :: cs, c, h, m => by
    rw [Cond.oks, Bool.and_eq_true] at h
    rcases List.mem_cons.mp m with rfl | m
    · exact h.1
    · exact Cond.oks_mem h.2 m
theorem Cond.ok_kids {c : Cond} (h : c.ok = true) : Cond.oks c.kids = true := by
  cases c with
  | fixed b => rfl
  | contact n => rfl
  | not c => simpa [Cond.kids, Cond.oks, Cond.ok] using h
  | grp s cs =>
    rw [Cond.ok, Bool.and_eq_true] at h
    exact h.2
theorem isName_len {z : Str} (h : isName z = true) : z.length ≤ 8 := by
  unfold isName at h
  simp only [Bool.and_eq_true, decide_eq_true_eq] at h
  exact h.1.2
def Cond.single : Cond → Bool
  | .fixed _ => true
  | .contact _ => true
  | _ => false

section
variable {P : Program} {w : World} {K : PySem.W.Frag} {mg : Str → Option Value} {base : Heap} {cl : Cl}
def spSingle (cl : Cl) : Sp := fun vs H Q _ => ∃ (v : V) (c : Cond), vs = [v] ∧ IsT H v c ∧ c.single = true ∧ c.ok = true ∧ ∀ (H' : Hp) (x : Addr), Same H H' → IsP cl H' (.ref x) c → Q (.ref x) H'
theorem ok_single (T : TPartOf K mg cl) : FnAt P w K mg base CX0 "single" 5 ["told"] (spSingle cl) := by
  have M_Fixed : MakAt P w K mg base CX0 "Fixed" cl.fx 1 ["self", "value"] (spInitFx cl) := ok_init_fx T.make
  have M_Contact : MakAt P w K mg base CX0 "Contact" cl.ct 3 ["self", "name"] (spInitCt cl) := ok_init_ct T.make
  refine fnAt_ok T.d_single sc_single (fun vs H Q E h => ?_) (fun f cdv A outer s H vs Q E hr h => ?_)
  · obtain ⟨v, c, rfl, _⟩ := h; rfl
  · obtain ⟨v, c, rfl, ht, hs, hok, k⟩ := h
    refine ⟨_, (pss_one (ps_ret (pe_ifExp (pt_cmpR op_eq (pe_ix ix_tup (pv 0) pe_int (fun _ _ => rfl)) pe_str (nomark _)) (pe_makeF M_Fixed hr pass0 (pa_cons (pe_ix ix_tup (pv 0) pe_int (fun _ _ => rfl)) pa_nil)) (pe_makeF M_Contact hr pass0 (pa_cons (pe_ix ix_tup (pv 0) pe_int (fun _ _ => rfl)) pa_nil))))), ?_⟩
    cases ht with
    | @fixed t b h =>
      refine ⟨_, rfl, t, _, 0, .str "fixed", rfl, rfl, SqT.of h, rfl, rfl, _, rfl, ?_⟩
      rw [decide_eq_true rfl]
      refine iteT ⟨_, rfl, t, _, 1, .bl b, rfl, rfl, SqT.of h, rfl, ?_⟩
      exact mk_fx fun H' x s' p => k H' x s' p
    | @contact t n h =>
      refine ⟨_, rfl, t, _, 0, .str "contact", rfl, rfl, SqT.of h, rfl, rfl, _, rfl, ?_⟩
      rw [decide_eq_false (show ¬ (V.str "contact" = V.str "fixed") by decide +kernel)]
      refine iteF ⟨_, rfl, t, _, 1, .str n, rfl, rfl, SqT.of h, rfl, ?_⟩
      exact mk_ct (line_ge (Nat.le_trans (isName_len hok) (by decide))) hok fun H' x s' p => k H' x s' p
    | not h p => cases hs
    | grp h p => cases hs
def kindS : Cond → Str
  | .not _ => "not"
  | .grp s _ => word s
  | .fixed _ => "fixed"
  | .contact _ => "contact"
def spJoined (cl : Cl) : Sp := fun vs H Q _ => ∃ (l : Addr) (ws : List V) (c : Cond), vs = [.str (kindS c), .ref l] ∧ H l = some (.lst ws) ∧ c.single = false ∧ c.ok = true ∧ IsPs cl H ws c.kids ∧ c.size ≤ 60 ∧ c.depth ≤ 20 ∧
  ∀ (H' : Hp) (x : Addr), Same H H' → IsP cl H' (.ref x) c → Q (.ref x) H'
theorem ok_joined (T : TPartOf K mg cl) : FnAt P w K mg base CX0 "joined" 25 ["kind", "parts"] (spJoined cl) := by
  have M_Turned : MakAt P w K mg base CX0 "Turned" cl.tn 23 ["self", "part"] (spInitTn cl) := ok_init_tn T.make
  have M_Series : MakAt P w K mg base CX0 "Series" cl.sr 23 ["self", "parts"] (spInitGr cl true) := ok_init_gr T.make true T.make.parts.c_Series T.make.i_sr
  have M_Branch : MakAt P w K mg base CX0 "Branch" cl.br 23 ["self", "parts"] (spInitGr cl false) := ok_init_gr T.make false T.make.parts.c_Branch T.make.i_br
  refine fnAt_ok T.d_joined sc_joined (fun vs H Q E h => ?_) (fun f cdv A outer s H vs Q E hr h => ?_)
  · obtain ⟨l, ws, c, rfl, _⟩ := h; rfl
  · obtain ⟨l, ws, c, rfl, hl, hs, hok, ps, hz, hd, k⟩ := h
    refine ⟨_, (pss_cons (ps_if (pt_cmpR op_eq (pv 0) pe_str (nomark _)) (pss_one (ps_ret (pe_makeF M_Turned hr pass0 (pa_cons (pe_ix ix_list (pv 1) pe_int (fun _ _ => rfl)) pa_nil)))) pss_nil)
        (pss_cons (ps_if (pt_cmpR op_eq (pv 0) pe_str (nomark _)) (pss_one (ps_ret (pe_makeF M_Series hr pass0 (pa_cons (pv 1) pa_nil)))) pss_nil)
        (pss_one (ps_ret (pe_makeF M_Branch hr pass0 (pa_cons (pv 1) pa_nil)))))), ?_⟩
    cases c with
    | fixed b => cases hs
    | contact n => cases hs
    | not c =>
      rw [Cond.size] at hz
      rw [Cond.depth] at hd
      obtain ⟨v, rfl, p⟩ : ∃ v, ws = [v] ∧ IsP cl H v c := by
        cases ps with
        | cons p t => cases t; exact ⟨_, rfl, p⟩
      refine ⟨_, rfl, rfl, _, rfl, ?_⟩
      rw [decide_eq_true (show V.str (kindS (.not c)) = V.str "not" from rfl)]
      refine iteT ⟨_, rfl, l, _, 0, v, rfl, rfl, SqL.of hl, rfl, ?_⟩
      exact mk_tn p (by omega) (by omega) fun H' x s' p => k H' x s' p
    | grp s cs =>
      rw [Cond.size] at hz
      rw [Cond.depth] at hd
      rw [Cond.ok, Bool.and_eq_true, decide_eq_true_eq] at hok
      refine ⟨_, rfl, rfl, _, rfl, ?_⟩
      cases s with
      | true =>
        rw [decide_eq_false (show ¬ (V.str (kindS (.grp true cs)) = V.str "not") by show ¬ (V.str (Str.ofString "and") = V.str "not"); decide +kernel)]
        refine iteF ⟨_, rfl, rfl, _, rfl, ?_⟩
        rw [decide_eq_true (show V.str (kindS (.grp true cs)) = V.str "and" from rfl)]
        refine iteT ⟨_, rfl, ?_⟩
        exact mk_gr (cs := cs) hl ps hok.1 (by omega) (by omega) fun H' x s' p => k H' x s' p
      | false =>
        rw [decide_eq_false (show ¬ (V.str (kindS (.grp false cs)) = V.str "not") by show ¬ (V.str (Str.ofString "or") = V.str "not"); decide +kernel)]
        refine iteF ⟨_, rfl, rfl, _, rfl, ?_⟩
        rw [decide_eq_false (show ¬ (V.str (kindS (.grp false cs)) = V.str "and") by show ¬ (V.str (Str.ofString "or") = V.str "and"); decide +kernel)]
        refine iteF ⟨_, rfl, ?_⟩
        exact mk_gr (cs := cs) hl ps hok.1 (by omega) (by omega) fun H' x s' p => k H' x s' p
/-! ### the stack -/
/-- what is open: a condition, its parts that are made, the list that holds them -/
structure Frame where
  c : Cond
  ds : List Cond
  pl : Addr
structure Fr1 (cl : Cl) (H0 H : Hp) (v : V) (f : Frame) : Prop where
  ex : ∃ (tp t : Addr) (ws : List V), v = .ref tp ∧ H tp = some (.tup [.ref t, .ref f.pl]) ∧ IsT H (.ref t) f.c ∧ H f.pl = some (.lst ws) ∧ IsPs cl H ws f.ds
  new : H0 f.pl = none
  pre : f.ds = f.c.kids.take f.ds.length
  sz : f.c.size ≤ 60
  dp : f.c.depth ≤ 20
  ok : f.c.ok = true
inductive Stk (cl : Cl) (H0 H : Hp) (root : Cond) : List V → List Frame → Prop
  | one {v : V} {f : Frame} (h : Fr1 cl H0 H v f) (hr : f.c = root) : Stk cl H0 H root [v] [f]
  | push {v : V} {vs : List V} {f g : Frame} {r : List Frame} (s : Stk cl H0 H root vs (g :: r)) (h : Fr1 cl H0 H v f) (hk : g.c.kids[g.ds.length]? = some f.c) (ne : ∀ e ∈ g :: r, e.pl ≠ f.pl) : Stk cl H0 H root (vs ++ [v]) (f :: g :: r)
theorem Fr1.keep {H0 H H' : Hp} {v : V} {f : Frame} (k : Imm cl.has H H') (kl : ∀ ws, H f.pl = some (.lst ws) → H' f.pl = some (.lst ws)) (h : Fr1 cl H0 H v f) : Fr1 cl H0 H' v f := by
  obtain ⟨⟨tp, t, ws, e, h1, h2, h3, h4⟩, a, b, c, d, g⟩ := h
  exact ⟨⟨tp, t, ws, e, k _ _ h1 trivial, h2.mono k, kl _ h3, h4.mono k⟩, a, b, c, d, g⟩
theorem Stk.keep {H0 H H' : Hp} {root : Cond} (k : Imm cl.has H H') : ∀ {vs : List V} {fr : List Frame}, (∀ f ∈ fr, ∀ ws, H f.pl = some (.lst ws) → H' f.pl = some (.lst ws)) → Stk cl H0 H root vs fr → Stk cl H0 H' root vs fr
  | _, _, kl, .one h hr => .one (h.keep k (kl _ (List.mem_singleton.mpr rfl))) hr
  | _, _, kl, .push s h hk ne => .push (Stk.keep k (fun f hf => kl f (List.mem_cons_of_mem _ hf)) s) (h.keep k (kl _ List.mem_cons_self)) hk ne
theorem Stk.ne {H0 H : Hp} {root : Cond} {vs : List V} {fr : List Frame} (s : Stk cl H0 H root vs fr) : fr ≠ [] ∧ vs ≠ [] := by
  cases s <;> simp
theorem Stk.len {H0 H : Hp} {root : Cond} : ∀ {vs : List V} {fr : List Frame}, Stk cl H0 H root vs fr → vs.length = fr.length
  | _, _, .one _ _ => rfl
  | _, _, .push s _ _ _ => by rw [List.length_append, Stk.len s]; rfl
/-- the deeper, the smaller -/
theorem Stk.deep {H0 H : Hp} {root : Cond} : ∀ {vs : List V} {fr : List Frame} {f : Frame} {r : List Frame}, Stk cl H0 H root vs fr → fr = f :: r → r.length + f.c.depth ≤ root.depth
  | _, _, _, _, .one h hr, e => by
    cases e
    rw [hr]
    simp
  | _, _, _, _, .push (g := g) s h hk ne, e => by
    cases e
    have ih := Stk.deep s rfl
    have h1 := Cond.depth_mem (List.mem_of_getElem? hk)
    have h2 := g.c.depth_kids
    rw [List.length_cons]
    omega
theorem Stk.lists {H0 H : Hp} {root : Cond} : ∀ {vs : List V} {fr : List Frame}, Stk cl H0 H root vs fr → ∀ f ∈ fr, ∃ ws, H f.pl = some (.lst ws)
  | _, _, .one h hr, f, hf => by
    obtain ⟨⟨tp, t, ws, e, h1, h2, h3, h4⟩, _⟩ := h
    rw [List.mem_singleton.mp hf]
    exact ⟨_, h3⟩
  | _, _, .push s h hk ne, f, hf => by
    rcases List.mem_cons.mp hf with rfl | hf
    · obtain ⟨⟨tp, t, ws, e, h1, h2, h3, h4⟩, _⟩ := h
      exact ⟨_, h3⟩
    · exact Stk.lists s f hf
/-- the top one is another one -/
theorem Stk.swap {H0 H H' : Hp} {root : Cond} {vs vs1 : List V} {v1 : V} {g g' : Frame} {r : List Frame} (s : Stk cl H0 H root vs (g :: r)) (k : Imm cl.has H H') (kl : ∀ e : Frame, e.pl ≠ g.pl → ∀ ws, H e.pl = some (.lst ws) → H' e.pl = some (.lst ws)) (ev : vs = vs1 ++ [v1]) (h : Fr1 cl H0 H' v1 g') (ec : g'.c = g.c) (ep : g'.pl = g.pl) : Stk cl H0 H' root vs (g' :: r) := by
  cases s with
  | @one v _ h0 hr =>
    have e1 : vs1 = [] ∧ v = v1 := by
      cases vs1 with
      | nil => exact ⟨rfl, by simpa using ev⟩
      | cons a b => simp at ev
    obtain ⟨rfl, rfl⟩ := e1
    exact .one h (ec.trans hr)
  | @push v vs0 _ g0 r0 s h0 hk ne =>
    have e1 := List.append_inj_left' ev rfl
    have e2 : v = v1 := by
      have := List.append_inj_right' ev rfl
      simpa using this
    subst e1 e2
    exact .push (s.keep k fun e he ws hw => kl e (ne e he) ws hw) h (by rw [ec]; exact hk) (fun e he => by rw [ep]; exact ne e he)
/-- what is left to do -/
def lows : List Frame → Nat
  | [] => 0
  | g :: r => 1 + 2 * Cond.sizes (g.c.kids.drop (g.ds.length + 1)) + lows r
def mu : List Frame → Nat
  | [] => 0
  | f :: r => 1 + 2 * Cond.sizes (f.c.kids.drop f.ds.length) + lows r
theorem mu_push {f g : Frame} {r : List Frame} (hk : g.c.kids[g.ds.length]? = some f.c) (hd : f.ds = []) : mu (f :: g :: r) < mu (g :: r) := by
  have e : g.c.kids.drop g.ds.length = f.c :: g.c.kids.drop (g.ds.length + 1) := by
    obtain ⟨h1, h2⟩ := List.getElem?_eq_some_iff.mp hk
    rw [List.drop_eq_getElem_cons h1, h2]
  have e2 := f.c.size_kids
  show 1 + 2 * Cond.sizes (f.c.kids.drop f.ds.length) + (1 + 2 * Cond.sizes (g.c.kids.drop (g.ds.length + 1)) + lows r) < 1 + 2 * Cond.sizes (g.c.kids.drop g.ds.length) + lows r
  rw [e, Cond.sizes, hd, List.length_nil, List.drop_zero]
  omega
theorem mu_pop {f g g' : Frame} {r : List Frame} (hc : g'.c = g.c) (hl : g'.ds.length = g.ds.length + 1) : mu (g' :: r) < mu (f :: g :: r) := by
  show 1 + 2 * Cond.sizes (g'.c.kids.drop g'.ds.length) + lows r < 1 + 2 * Cond.sizes (f.c.kids.drop f.ds.length) + (1 + 2 * Cond.sizes (g.c.kids.drop (g.ds.length + 1)) + lows r)
  rw [hc, hl]
  omega
theorem IsT.shape {H : Hp} {t : Addr} {c : Cond} (p : IsT H (.ref t) c) : ∃ rest, H t = some (.tup (.str (kindS c) :: rest)) ∧ (c.single = false → IsTs H rest c.kids) := by
  cases p with
  | fixed h => exact ⟨_, h, fun e => nomatch e⟩
  | contact h => exact ⟨_, h, fun e => nomatch e⟩
  | not h p => exact ⟨_, h, fun _ => .cons p .nil⟩
  | grp h p => exact ⟨_, h, fun _ => p⟩
theorem single_in (c : Cond) : inV (.str (kindS c)) [.str "fixed", .str "contact"] = c.single := by
  cases c with
  | fixed b => show inV (.str (Str.ofString "fixed")) [.str "fixed", .str "contact"] = true; decide +kernel
  | contact b => show inV (.str (Str.ofString "contact")) [.str "fixed", .str "contact"] = true; decide +kernel
  | not b => show inV (.str (Str.ofString "not")) [.str "fixed", .str "contact"] = false; decide +kernel
  | grp s cs =>
    cases s
    · show inV (.str (Str.ofString "or")) [.str "fixed", .str "contact"] = false; decide +kernel
    · show inV (.str (Str.ofString "and")) [.str "fixed", .str "contact"] = false; decide +kernel
theorem single_kids {c : Cond} (h : c.single = true) : c.kids = [] := by
  cases c with
  | fixed b => rfl
  | contact b => rfl
  | not b => cases h
  | grp s cs => cases h
def spPartOf (cl : Cl) : Sp := fun vs H Q _ => ∃ (v : V) (c : Cond), vs = [v] ∧ IsT H v c ∧ c.ok = true ∧ c.size ≤ 60 ∧ c.depth ≤ 20 ∧ ∀ (H' : Hp) (x : Addr), Same H H' → IsP cl H' (.ref x) c → Q (.ref x) H'
/-- the invariant of the loop -/
def PInv (cl : Cl) (H0 : Hp) (told : V) (op : Addr) (root : Cond) (m : Nat) (σ : L2.St) (H : Hp) : Prop :=
  ∃ (vs : List V) (fr : List Frame) (x : V) (o1 o2 o3 : Option V), σ = [some told, some (.ref op), some x, o1, o2, o3] ∧ H op = some (.lst vs) ∧ H0 op = none ∧ Same H0 H ∧ m = mu fr ∧
    ((fr = [] ∧ vs = [] ∧ ∃ a, x = .ref a ∧ IsP cl H x root) ∨ (Stk cl H0 H root vs fr ∧ ∀ f ∈ fr, f.pl ≠ op))
theorem ok_part_of (T : TPartOf K mg cl) : FnAt P w K mg base CX0 "part_of" 26 ["told"] (spPartOf cl) := by
  have G_single : FnAt P w K mg base CX0 "single" 5 _ (spSingle cl) := ok_single T
  have G_joined : FnAt P w K mg base CX0 "joined" 25 _ (spJoined cl) := ok_joined T
  refine fnAt_ok T.d_part_of sc_part_of (fun vs H Q E h => ?_) (fun f cdv A outer s H vs Q E hr h => ?_)
  · obtain ⟨v, c, rfl, _⟩ := h; rfl
  · obtain ⟨v, root, rfl, ht, hok, hz, hd, k⟩ := h
    obtain ⟨t0, x0, rfl, ht0⟩ := ht.ref
    refine ⟨_, (pss_cons (ps_set (i := 1) sc_part_of.nd rfl (by first | exact Or.inl rfl | exact Or.inr rfl) (pe_lst (pa_cons (pe_tup (pa_cons (pv 0) (pa_cons (pe_lst pa_nil) pa_nil))) pa_nil)))
        (pss_cons (ps_set (i := 2) sc_part_of.nd rfl (by first | exact Or.inl rfl | exact Or.inr rfl) pe_non)
        (pss_cons (ps_while PassesOwn.never (pt_cmpR (op_neE hr.units0) (pv 1) (pe_lst pa_nil) (nomark _)) (pss_cons (ps_asg (pe_ix ix_list (pv 1) (pe_un un_neg pe_int) (fun _ _ => rfl)) (pg_tup rfl (pgs_cons (pg_name (i := 3) sc_part_of.nd rfl (by first | exact Or.inl rfl | exact Or.inr rfl)) (pgs_cons (pg_name (i := 4) sc_part_of.nd rfl (by first | exact Or.inl rfl | exact Or.inr rfl)) pgs_nil))))
          (pss_cons (ps_set (i := 5) sc_part_of.nd rfl (by first | exact Or.inl rfl | exact Or.inr rfl) (pe_cmpR op_in_seq (pe_ix ix_tup (pv 3) pe_int (fun _ _ => rfl)) (pe_tup (pa_cons pe_str (pa_cons pe_str pa_nil))) rfl))
          (C8.pss_cut (ps_if (PW.pt (pw_and (pt_not (pt_val (pv 5))) (pw_and1 (pt_cmpR op_lt (pe_callB call_len_seq (by rfl) T.z_len PySem.boot_len (pa_cons (pv 4) pa_nil)) (pe_op op_sub (pe_callB call_len_seq (by rfl) T.z_len PySem.boot_len (pa_cons (pv 3) pa_nil)) pe_int) (nomark _))))) (pss_cons (ps_expr (pe_bm PySem.F.plainAttrs_list PySem.F.slot_list_append PySem.F.type_list_append mt_append (pv 1) (pa_cons (pe_tup (pa_cons (pe_ix ix_tup (pv 3) (pe_op op_add pe_int (pe_callB call_len_seq (by rfl) T.z_len PySem.boot_len (pa_cons (pv 4) pa_nil))) (fun _ _ => rfl)) (pa_cons (pe_lst pa_nil) pa_nil))) pa_nil)))
            (pss_one ps_continue)) pss_nil)
          (C8.pss_cut (ps_expr (pe_bm0 PySem.F.plainAttrs_list PySem.F.slot_list_pop PySem.F.type_list_pop mt_pop (pv 1)))
          (C8.pss_cut (ps_set (i := 2) sc_part_of.nd rfl (by first | exact Or.inl rfl | exact Or.inr rfl) (pe_ifExp (pt_val (pv 5)) (pe_callF G_single hr pass0 (pa_cons (pv 3) pa_nil)) (pe_callF G_joined hr pass0 (pa_cons (pe_ix ix_tup (pv 3) pe_int (fun _ _ => rfl)) (pa_cons (pv 4) pa_nil)))))
          (pss_one (ps_if (pt_cmpR (op_neE hr.units0) (pv 1) (pe_lst pa_nil) (nomark _)) (pss_one (ps_expr (pe_bm PySem.F.plainAttrs_list PySem.F.slot_list_append PySem.F.type_list_append mt_append (pe_ix ix_tup (pe_ix ix_list (pv 1) (pe_un un_neg pe_int) (fun _ _ => rfl)) pe_int (fun _ _ => rfl)) (pa_cons (pv 2) pa_nil)))) pss_nil))))))))
        (pss_one (ps_ret (pv 2)))))), ?_⟩
    refine ⟨_, rfl, Nat.zero_le _, fun p1 n1 => ⟨line_ge (by simp), fun tp n2 => ⟨line_ge (by simp), fun op n3 => ?_⟩⟩⟩
    have s1 : Same H (upd H p1 (.lst [])) := Same.new n1
    have s2 : Same (upd H p1 (.lst [])) (upd (upd H p1 (.lst [])) tp (.tup [.ref t0, .ref p1])) := Same.new n2
    have s3 : Same (upd (upd H p1 (.lst [])) tp (.tup [.ref t0, .ref p1])) (upd (upd (upd H p1 (.lst [])) tp (.tup [.ref t0, .ref p1])) op (.lst [.ref tp])) := Same.new n3
    have n3' : H op = none := s1.free (s2.free n3)
    have hpo : p1 ≠ op := ne_of_none (s2 _ _ upd_same) n3
    refine ⟨PInv cl H (.ref t0) op root, ⟨mu [⟨root, [], p1⟩], [.ref tp], [⟨root, [], p1⟩], .non, none, none, none, rfl, upd_same, n3', s1.trans (s2.trans s3), rfl, .inr ⟨.one ⟨⟨tp, t0, [], rfl, s3 _ _ upd_same, ?_, s3 _ _ (s2 _ _ upd_same), .nil⟩, n1, rfl, hz, hd, hok⟩ rfl, ?_⟩⟩, ?_⟩
    · exact ht.mono (T := cl.has) (Same.imm (s1.trans (s2.trans s3)))
    · intro f hf
      rw [List.mem_singleton.mp hf]
      exact hpo
    rintro m σ H1 ⟨vs, fr, x, o1, o2, o3, rfl, hop, nop, sm, rfl, hst⟩
    refine ⟨_, rfl, Nat.zero_le _, fun q nq => ⟨op, q, vs, rfl, rfl, SqL.of (Same.new nq _ _ hop), SqL.of upd_same, _, rfl, ?_⟩⟩
    rcases hst with ⟨rfl, rfl, a, rfl, hp⟩ | ⟨hst, hno⟩
    · refine iteF ?_
      walk_at "rd"
      exact k _ _ (sm.trans (Same.new nq)) (hp.mono (Imm.new nq))
    · have hvs : vs.isEmpty = false := by
        have := hst.ne.2
        cases vs with
        | nil => exact absurd rfl this
        | cons => rfl
      rw [hvs]
      refine iteT ⟨fun σ' H' => ∃ m', m' < mu fr ∧ PInv cl H (.ref t0) op root m' σ' H', fun σ' H' h => h, ?_⟩
      -- the top of the stack
      obtain ⟨ws0, v, f, r, evs, efr, hf⟩ : ∃ ws0 v f r, vs = ws0 ++ [v] ∧ fr = f :: r ∧ Fr1 cl H H1 v f := by
        cases hst with
        | one h hr => exact ⟨[], _, _, _, rfl, rfl, h⟩
        | push s h hk ne => exact ⟨_, _, _, _, rfl, rfl, h⟩
      obtain ⟨⟨tp, t, ws, rfl, h1, h2, h3, h4⟩, fnew, fpre, fsz, fdp, fok⟩ := hf
      have sq : Same H1 (upd H1 q (.lst [])) := Same.new nq
      obtain ⟨rest, hsh, hki⟩ := h2.shape
      refine ⟨_, rfl, 1, rfl, op, vs, -1, .ref tp, rfl, rfl, SqL.of (sq _ _ hop), by rw [evs]; exact atI_last _ _, ?_⟩
      refine ⟨tp, _, rfl, SqT.of (sq _ _ h1), rfl, _, _, rfl, ?_⟩
      walk_at "rd"
      refine ⟨t, _, 0, .str (kindS f.c), rfl, rfl, SqT.of (sq _ _ hsh), atI_int (by decide) rfl, line_ge (by simp), fun q2 nq2 => ⟨q2, _, rfl, .inr (SqT.of upd_same), rfl, rfl, ?_⟩⟩
      have e1 : (V.bl (if false = true then !inV (.str (kindS f.c)) [.str "fixed", .str "contact"] else inV (.str (kindS f.c)) [.str "fixed", .str "contact"])) = .bl f.c.single := by
        rw [if_neg Bool.false_ne_true, single_in]
      rw [e1]
      have sq2 : Same H1 (upd (upd H1 q (.lst [])) q2 (.tup [.str "fixed", .str "contact"])) := sq.trans (Same.new nq2)
      generalize (upd (upd H1 q (.lst [])) q2 (.tup [.str "fixed", .str "contact"])) = H2 at sq2 ⊢
      clear e1
      have hn2 : H2 f.pl = some (.lst ws) := sq2 _ _ h3
      have hp2 := h4.length
      have hds : f.ds.length ≤ f.c.kids.length := by
        have := congrArg List.length fpre
        rw [List.length_take] at this
        omega
      refine ⟨fun σ' H' => σ' = [some (.ref t0), some (.ref op), some x, some (.ref t), some (.ref f.pl), some (.bl f.c.single)] ∧ Same H1 H' ∧ f.ds.length = f.c.kids.length, ?_, ?_⟩
      · walk_at "rd"
        cases hsg : f.c.single with
        | true =>
          refine iteF ⟨sq2, ?_⟩
          have e := single_kids hsg
          rw [e] at hds ⊢
          simp at hds
          rw [hds]
        | false =>
          have hki' := hki hsg
          have hrl := hki'.length
          refine iteT ⟨ws, .inl (SqL.of hn2), _, .inr (SqT.of (sq2 _ _ hsh)), ?_⟩
          by_cases hlt : f.ds.length < f.c.kids.length
          · rw [decide_eq_true (show ((ws.length : Nat) : Int) < (((V.str (kindS f.c) :: rest).length : Nat) : Int) - 1 by rw [List.length_cons]; omega)]
            refine iteT ?_
            -- the next part is opened
            obtain ⟨c', hc'⟩ : ∃ c', f.c.kids[f.ds.length]? = some c' := ⟨_, List.getElem?_eq_getElem hlt⟩
            obtain ⟨v', hv'⟩ : ∃ v', rest[f.ds.length]? = some v' := ⟨_, List.getElem?_eq_getElem (by omega)⟩
            obtain ⟨c2, hc2, ht'⟩ := hki'.at hv'
            rw [hc'] at hc2
            cases hc2
            obtain ⟨t', x', rfl, ht2⟩ := ht'.ref
            refine ⟨_, rfl, .inl ⟨rfl, _, SqL.of (sq2 _ _ hop)⟩, ?_⟩
            walk_at "rd"
            refine ⟨ws, .inl (SqL.of hn2), t, _, _, .ref t', rfl, rfl, SqT.of (sq2 _ _ hsh), atI_int (by omega) ?_, line_ge (by simp), fun pl' npl' => ⟨line_ge (by simp), fun tp' ntp' => ?_⟩⟩
            · have e : ((1 : Int) + (ws.length : Nat)).toNat = f.ds.length + 1 := by omega
              rw [e, List.getElem?_cons_succ]
              exact hv'
            have sA : Same H1 (upd (upd H2 pl' (.lst [])) tp' (.tup [.ref t', .ref pl'])) := (sq2.trans (Same.new npl')).trans (Same.new ntp')
            have nplH : H1 pl' = none := sq2.free npl'
            refine ⟨op, vs, _, rfl, rfl, sA _ _ hop, ?_, ?_⟩
            · have h1 := hst.len
              have h2 := hst.deep efr
              have h3 := f.c.depth_pos
              rw [efr, List.length_cons] at h1
              exact small1000 (by omega)
            have hplo : pl' ≠ op := (ne_of_none hop nplH).symm
            have hplr : ∀ e ∈ fr, e.pl ≠ pl' := by
              intro e he q
              have h := Stk.lists hst e he
              obtain ⟨ws', hw⟩ := h
              rw [q, nplH] at hw
              cases hw
            have kp : Imm cl.has H1 (upd (upd (upd H2 pl' (.lst [])) tp' (.tup [.ref t', .ref pl'])) op (.lst (vs ++ [.ref tp']))) := (Same.imm sA).trans (Imm.mut (sA _ _ hop) id)
            have kl : ∀ g ∈ fr, ∀ ws, H1 g.pl = some (.lst ws) → upd (upd (upd H2 pl' (.lst [])) tp' (.tup [.ref t', .ref pl'])) op (.lst (vs ++ [.ref tp'])) g.pl = some (.lst ws) := by
              intro g hg ws hw
              rw [upd_ne (hno g hg)]
              exact sA _ _ hw
            have hck : c' ∈ f.c.kids := List.mem_of_getElem? hc'
            have z1 := Cond.size_mem hck
            have z2 := Cond.depth_mem hck
            have z3 := f.c.size_kids
            have z4 := f.c.depth_kids
            have hnew : Fr1 cl H (upd (upd (upd H2 pl' (.lst [])) tp' (.tup [.ref t', .ref pl'])) op (.lst (vs ++ [.ref tp']))) (.ref tp') ⟨c', [], pl'⟩ := by
              have ntpo : tp' ≠ op := (ne_of_none ((sq2.trans (Same.new npl')) _ _ hop) ntp').symm
              refine ⟨⟨tp', t', [], rfl, ?_, ?_, ?_, .nil⟩, sm.free nplH, rfl, (show c'.size ≤ 60 by omega), (show c'.depth ≤ 20 by omega), Cond.oks_mem (Cond.ok_kids fok) hck⟩
              · rw [upd_ne ntpo, upd_same]
              · exact ht'.mono kp
              · rw [upd_ne hplo]
                exact Same.new ntp' _ _ upd_same
            rw [efr] at hst kl hplr hno ⊢
            refine ⟨_, mu_push (f := ⟨c', [], pl'⟩) hc' rfl, vs ++ [.ref tp'], _, x, _, _, _, rfl, upd_same, nop, Same.mut (sm.trans sA) nop, rfl, .inr ⟨.push (hst.keep kp kl) hnew hc' hplr, fun g hg => ?_⟩⟩
            rcases List.mem_cons.mp hg with rfl | hg
            · exact hplo
            · exact hno g hg
          · rw [decide_eq_false (show ¬ ((ws.length : Nat) : Int) < (((V.str (kindS f.c) :: rest).length : Nat) : Int) - 1 by rw [List.length_cons]; omega)]
            exact iteF ⟨sq2, by omega⟩
      rintro σ' H3 ⟨rfl, s3', hfull⟩
      have hop3 := s3' _ _ hop
      have hkids : f.ds = f.c.kids := by rw [fpre, hfull, List.take_of_length_le (Nat.le_refl _)]
      refine ⟨fun σ' H' => σ' = [some (.ref t0), some (.ref op), some x, some (.ref t), some (.ref f.pl), some (.bl f.c.single)] ∧ H' = upd H3 op (.lst ws0), ?_, ?_⟩
      · refine ⟨_, rfl, .inl ⟨rfl, _, SqL.of hop3⟩, op, vs, .ref tp, rfl, rfl, hop3, ?_, rfl, ?_⟩
        · rw [evs]
          simp
        · rw [evs, List.dropLast_concat]
      rintro σ' H4 ⟨rfl, e4⟩
      have i4 : Imm cl.has H3 H4 := by
        rw [e4]
        exact Imm.mut hop3 id
      have l4 : ∀ g ∈ fr, ∀ ws, H3 g.pl = some (.lst ws) → H4 g.pl = some (.lst ws) := by
        intro g hg ws hw
        rw [e4, upd_ne (hno g hg)]
        exact hw
      have i14 : Imm cl.has H1 H4 := (Same.imm s3').trans i4
      have o4 : H4 op = some (.lst ws0) := by
        rw [e4, upd_same]
      have sm4 : Same H H4 := by
        rw [e4]
        exact Same.mut (sm.trans s3') nop
      have st4 : Stk cl H H4 root vs fr := (hst.keep (Same.imm s3') (fun g hg ws hw => s3' _ _ hw)).keep i4 l4
      clear e4
      refine ⟨fun σ' H' => ∃ y, σ' = [some (.ref t0), some (.ref op), some (.ref y), some (.ref t), some (.ref f.pl), some (.bl f.c.single)] ∧ Same H4 H' ∧ IsP cl H' (.ref y) f.c, ?_, ?_⟩
      · have h24 := h2.mono i14
        refine ⟨_, rfl, _, rfl, ?_⟩
        cases hsg : f.c.single with
        | true => exact iteT ⟨_, rfl, .ref t, f.c, rfl, h24, hsg, fok, fun H5 y s5 p5 => ⟨y, rfl, s5, p5⟩⟩
        | false =>
          refine iteF ⟨_, rfl, t, _, 0, .str (kindS f.c), rfl, rfl, SqT.of (i14 _ _ hsh trivial), atI_int (by decide) rfl, _, rfl, f.pl, ws, f.c, rfl, ?_, hsg, fok, ?_, fsz, fdp, fun H5 y s5 p5 => ⟨y, rfl, s5, p5⟩⟩
          · exact l4 f (by rw [efr]; exact List.mem_cons_self) _ (s3' _ _ h3)
          · rw [← hkids]
            exact h4.mono i14
      rintro σ' H5 ⟨y, rfl, s5, p5⟩
      refine ⟨_, rfl, Nat.zero_le _, fun q3 nq3 => ⟨op, q3, ws0, rfl, rfl, SqL.of (Same.new nq3 _ _ (s5 _ _ o4)), SqL.of upd_same, _, rfl, ?_⟩⟩
      have s46 : Same H4 (upd H5 q3 (.lst [])) := s5.trans (Same.new nq3)
      have p6 : IsP cl (upd H5 q3 (.lst [])) (.ref y) f.c := p5.mono (Imm.new nq3)
      generalize upd H5 q3 (.lst []) = H6 at s46 p6 ⊢
      cases r with
      | nil =>
        have ews : ws0 = [] := by
          have h := hst.len
          rw [efr, evs] at h
          simpa using h
        subst ews
        refine iteF ⟨0, by rw [efr]; exact Nat.lt_of_lt_of_le Nat.zero_lt_one (Nat.le_add_right 1 _), [], [], .ref y, _, _, _, rfl, s46 _ _ o4, nop, sm4.trans s46, rfl, .inl ⟨rfl, rfl, y, rfl, ?_⟩⟩
        rw [efr] at hst
        cases hst with
        | one h hr => rw [← hr]; exact p6
      | cons g r =>
        rw [efr, evs] at st4
        obtain ⟨sg, hk, ne⟩ : Stk cl H H4 root ws0 (g :: r) ∧ g.c.kids[g.ds.length]? = some f.c ∧ ∀ e ∈ g :: r, e.pl ≠ f.pl := by
          generalize he : ws0 ++ [V.ref tp] = vv at st4
          cases st4 with
          | push s h hk ne =>
            have := List.append_inj_left' he rfl
            subst this
            exact ⟨s, hk, ne⟩
        have sg6 : Stk cl H H6 root ws0 (g :: r) := sg.keep (Same.imm s46) (fun e _ ws hw => s46 _ _ hw)
        obtain ⟨vs1, v1, ev1, hg1⟩ : ∃ vs1 v1, ws0 = vs1 ++ [v1] ∧ Fr1 cl H H6 v1 g := by
          cases sg6 with
          | one h hr => exact ⟨[], _, rfl, h⟩
          | push s h hk ne => exact ⟨_, _, rfl, h⟩
        obtain ⟨⟨tg, tt, wg, rfl, g1, g2, g3, g4⟩, gnew, gpre, gsz, gdp, gok⟩ := hg1
        have hne : ws0.isEmpty = false := by rw [ev1]; simp
        rw [hne]
        have o6 := s46 _ _ o4
        refine iteT ⟨_, rfl, 1, rfl, op, ws0, -1, .ref tg, rfl, rfl, SqL.of o6, by rw [ev1]; exact atI_last _ _, tg, _, 1, .ref g.pl, rfl, rfl, SqT.of g1, rfl, .inl ⟨rfl, _, SqL.of g3⟩, ?_⟩
        have hwl := g4.length
        have hgl : g.ds.length < g.c.kids.length := (List.getElem?_eq_some_iff.mp hk).1
        have hz3 := Cond.len_sizes g.c.kids
        have hz4 := g.c.size_kids
        refine ⟨_, rfl, g.pl, wg, .ref y, rfl, rfl, g3, small1000 (by omega), ?_⟩
        have ngo : g.pl ≠ op := hno g (by rw [efr]; exact List.mem_cons_of_mem _ List.mem_cons_self)
        refine ⟨mu (⟨g.c, g.ds ++ [f.c], g.pl⟩ :: r), ?_, ws0, ⟨g.c, g.ds ++ [f.c], g.pl⟩ :: r, .ref y, _, _, _, rfl, ?_, nop, Same.mut (sm4.trans s46) gnew, rfl, .inr ⟨?_, ?_⟩⟩
        · rw [efr]
          exact mu_pop rfl (by simp)
        · rw [upd_ne ngo.symm]
          exact o6
        · have i7 : Imm cl.has H6 (upd H6 g.pl (.lst (wg ++ [.ref y]))) := Imm.mut g3 id
          have hfr : Fr1 cl H (upd H6 g.pl (.lst (wg ++ [.ref y]))) (.ref tg) ⟨g.c, g.ds ++ [f.c], g.pl⟩ := by
            refine ⟨⟨tg, tt, wg ++ [.ref y], rfl, i7 _ _ g1 trivial, g2.mono i7, upd_same, (g4.mono i7).snoc (p6.mono i7)⟩, gnew, ?_, gsz, gdp, gok⟩
            show g.ds ++ [f.c] = g.c.kids.take (g.ds ++ [f.c]).length
            rw [List.length_append, List.length_singleton, List.take_succ, hk, ← gpre]
            rfl
          exact sg6.swap i7 (fun e he => by
            intro ws hw
            rw [upd_ne he]
            exact hw) ev1 hfr rfl rfl
        · intro e he
          rcases List.mem_cons.mp he with rfl | he
          · exact ngo
          · exact hno e (by rw [efr]; exact List.mem_cons_of_mem _ (List.mem_cons_of_mem _ he))
end

--%% N4
/-! ## holds -/
abbrev s_Fixed_holds : Stmt := inClass (top 57) 1
theorem sc_Fixed_holds : FnScope ["self", "image"] ["self", "image"] (defScope s_Fixed_holds) := ⟨rfl, rfl, rfl, by decide +kernel, rfl, by decide +kernel, by decide +kernel⟩
abbrev s_Contact_holds : Stmt := inClass (top 58) 1
theorem sc_Contact_holds : FnScope ["self", "image"] ["self", "image"] (defScope s_Contact_holds) := ⟨rfl, rfl, rfl, by decide +kernel, rfl, by decide +kernel, by decide +kernel⟩
abbrev s_Turned_holds : Stmt := inClass (top 59) 2
theorem sc_Turned_holds : FnScope ["self", "image"] ["self", "image"] (defScope s_Turned_holds) := ⟨rfl, rfl, rfl, by decide +kernel, rfl, by decide +kernel, by decide +kernel⟩
abbrev s_Series_holds : Stmt := inClass (top 61) 0
theorem sc_Series_holds : FnScope ["self", "image", "part"] ["self", "image"] (defScope s_Series_holds) := ⟨rfl, rfl, rfl, by decide +kernel, rfl, by decide +kernel, by decide +kernel⟩
abbrev s_Branch_holds : Stmt := inClass (top 62) 0
theorem sc_Branch_holds : FnScope ["self", "image", "part"] ["self", "image"] (defScope s_Branch_holds) := ⟨rfl, rfl, rfl, by decide +kernel, rfl, by decide +kernel, by decide +kernel⟩
structure THolds (K : PySem.W.Frag) (mg : Str → Option Value) (cl : Cl) : Prop where
  parts : TParts K mg cl
  m_holds_fx : MethAt K cl.fx "holds" "Fixed.holds" s_Fixed_holds ["self", "image"]
  m_holds_ct : MethAt K cl.ct "holds" "Contact.holds" s_Contact_holds ["self", "image"]
  m_holds_tn : MethAt K cl.tn "holds" "Turned.holds" s_Turned_holds ["self", "image"]
  m_holds_sr : MethAt K cl.sr "holds" "Series.holds" s_Series_holds ["self", "image"]
  m_holds_br : MethAt K cl.br "holds" "Branch.holds" s_Branch_holds ["self", "image"]
  z_all : mg "all" = none
  z_any : mg "any" = none
/-- an image as a dict: each key once, its value a truth -/
def GoodD (kvs : List (Key × V)) : Prop := (∀ p ∈ kvs, valV kvs p.1 = some p.2 ∧ ∃ b, p.2 = .bl b) ∧ kvs.length ≤ 100
/-- the truth of a name: of one that is not in it, False -/
def imF (kvs : List (Key × V)) : Im := fun n => match valV kvs (Sum.inr n : Key) with
  | some (.bl b) => b
  | _ => false
theorem GoodD.at {kvs : List (Key × V)} (g : GoodD kvs) (n : Str) : (valV kvs (Sum.inr n : Key) = none ∧ imF kvs n = false) ∨ valV kvs (Sum.inr n : Key) = some (.bl (imF kvs n)) := by
  unfold imF
  cases h : valV kvs (Sum.inr n : Key) with
  | none => exact .inl ⟨rfl, rfl⟩
  | some v =>
    unfold valV at h
    obtain ⟨p, hp, rfl⟩ := Option.map_eq_some_iff.mp h
    obtain ⟨b, e⟩ := (g.1 p (List.mem_of_find?_eq_some hp)).2
    rw [e]
    exact .inr rfl
section
variable {P : Program} {w : World} {K : PySem.W.Frag} {mg : Str → Option Value} {base : Heap} {cl : Cl}
def spHolds (cl : Cl) (n : Nat) (C : Addr) : Sp := fun vs H Q _ => ∃ (a dx d : Addr) (fs : List (Str × V)) (c : Cond) (kvs : List (Key × V)), vs = [.ref a, .ref d] ∧ H a = some (.ins C dx fs) ∧ IsP cl H (.ref a) c ∧ H d = some (.dK kvs) ∧ GoodD kvs ∧ c.depth ≤ n ∧ c.size ≤ 1000 ∧
  ∀ H' : Hp, Same H H' → Q (.bl (c.holds (imF kvs))) H'
theorem ok_holds_fx (T : THolds K mg cl) (n : Nat) : ∃ f fd, Cls K cl.fx ∧ Meth K cl.fx "holds" f ∧ Binds K fd ["self", "image"] [] ∧ FnOk P w K mg base CX0 1 f fd ["self", "image"] (spHolds cl n cl.fx) := by
  refine methAt_ok T.parts.c_Fixed.cl T.m_holds_fx sc_Fixed_holds (fun vs H Q E h => ?_) (fun f cdv A outer s H vs Q E hr h => ?_)
  · obtain ⟨a, dx, d, fs, c, kvs, rfl, _⟩ := h; rfl
  · obtain ⟨a, dx, d, fs, c, kvs, rfl, ha, p, hD, hg, hd, hz, q⟩ := h
    obtain ⟨b, rfl, rfl⟩ := inv_fx T.parts.nd ha p
    refine ⟨_, (pss_one (ps_ret (pe_fld (pv 0) rfl))), ?_⟩
    exact ⟨_, rfl, a, _, dx, _, _, rfl, ha, T.parts.c_Fixed.cl, T.parts.nv_fx, lk1s, q _ (Same.refl _)⟩
theorem ok_holds_ct (T : THolds K mg cl) (n : Nat) : ∃ f fd, Cls K cl.ct ∧ Meth K cl.ct "holds" f ∧ Binds K fd ["self", "image"] [] ∧ FnOk P w K mg base CX0 1 f fd ["self", "image"] (spHolds cl n cl.ct) := by
  refine methAt_ok T.parts.c_Contact.cl T.m_holds_ct sc_Contact_holds (fun vs H Q E h => ?_) (fun f cdv A outer s H vs Q E hr h => ?_)
  · obtain ⟨a, dx, d, fs, c, kvs, rfl, _⟩ := h; rfl
  · obtain ⟨a, dx, d, fs, c, kvs, rfl, ha, p, hD, hg, hd, hz, q⟩ := h
    obtain ⟨m, rfl, rfl⟩ := inv_ct T.parts.nd ha p
    have hu := hu_of hr
    refine ⟨_, (pss_one (ps_ret (pe_dget2 hu (pv 1) (pe_fld (pv 0) rfl) pe_bl (by constructor <;> rfl)))), ?_⟩
    refine ⟨_, rfl, d, rfl, .inl ⟨kvs, .inl hD⟩, _, rfl, a, _, dx, _, _, rfl, ha, T.parts.c_Contact.cl, T.parts.nn_ct, lk1s, valV kvs (Sum.inr m : Key), .inl ⟨kvs, Sum.inr m, .inl hD, rfl, rfl⟩, ?_⟩
    have e : (valV kvs (Sum.inr m : Key)).getD (V.bl false) = .bl (imF kvs m) := by
      rcases hg.at m with ⟨h1, h2⟩ | h1
      · rw [h1, h2]
        rfl
      · rw [h1]
        rfl
    rw [e]
    exact q _ (Same.refl _)
theorem ok_holds_tn (T : THolds K mg cl) {n k : Nat} (G_holds : DispAt P w K mg base CX0 cl.has "holds" k ["self", "image"] (spHolds cl n)) :
    ∃ f fd, Cls K cl.tn ∧ Meth K cl.tn "holds" f ∧ Binds K fd ["self", "image"] [] ∧ FnOk P w K mg base CX0 (k + 1) f fd ["self", "image"] (spHolds cl (n + 1) cl.tn) := by
  refine methAt_ok T.parts.c_Turned.cl T.m_holds_tn sc_Turned_holds (fun vs H Q E h => ?_) (fun f cdv A outer s H vs Q E hr h => ?_)
  · obtain ⟨a, dx, d, fs, c, kvs, rfl, _⟩ := h; rfl
  · obtain ⟨a, dx, d, fs, c, kvs, rfl, ha, p, hD, hg, hd, hz, q⟩ := h
    obtain ⟨v, c', rfl, rfl, p'⟩ := inv_tn T.parts.nd ha p
    rw [Cond.depth] at hd
    rw [Cond.size] at hz
    refine ⟨_, (pss_one (ps_ret (pe_not (pe_methD G_holds hr pass0 (pe_fld (pv 0) rfl) (pa_cons (pv 1) pa_nil) (Nat.le_refl _))))), ?_⟩
    obtain ⟨a', C', dx', fs', rfl, ha', hC', hl'⟩ := meth_of (m := "holds") (by decide +kernel) p'
    refine ⟨_, rfl, a, _, dx, _, _, rfl, ha, T.parts.c_Turned.cl, T.parts.np_tn, lk1s, a', C', dx', fs', rfl, ha', hC', hl', _, rfl, a', dx', d, fs', c', kvs, rfl, ha', p', hD, hg, by omega, by omega, fun H1 s1 => ?_⟩
    exact ⟨_, rfl, q _ s1⟩
theorem all_take (f : Im) (cs : List Cond) : (cs.map (Cond.holds f)).all id = Cond.alls f cs := (Cond.alls_map f cs).symm
theorem ok_holds_sr (T : THolds K mg cl) {n k : Nat} (G_holds : DispAt P w K mg base CX0 cl.has "holds" k ["self", "image"] (spHolds cl n)) :
    ∃ f fd, Cls K cl.sr ∧ Meth K cl.sr "holds" f ∧ Binds K fd ["self", "image"] [] ∧ FnOk P w K mg base CX0 (k + 1) f fd ["self", "image"] (spHolds cl (n + 1) cl.sr) := by
  refine methAt_ok T.parts.c_Series.cl T.m_holds_sr sc_Series_holds (fun vs H Q E h => ?_) (fun f cdv A outer st H vs Q E hr h => ?_)
  · obtain ⟨a, dx, d, fs, c, kvs, rfl, _⟩ := h; rfl
  · obtain ⟨a, dx, d, fs, c, kvs, rfl, ha, p, hD, hg, hd, hz, q⟩ := h
    obtain ⟨t, ws, cs, rfl, rfl, ht, ps⟩ := inv_gr (s := true) T.parts.nd rfl ha p
    rw [Cond.depth] at hd
    rw [Cond.size] at hz
    have hlen := ps.length
    have hz2 := Cond.len_sizes cs
    refine ⟨_, (pss_one (ps_ret (pe_callB (cr_all rfl) (by rfl) T.z_all (by decide +kernel) (pa_cons (pe_lc (own := [("part", 2)]) (g := gName 2) (tt := tYes) rfl sc_Series_holds.nd (pi_tup (pe_fld (pv 0) rfl)) (blkOk_by (own := [("part", 2)]) (N := ["self", "image", "part"]) (sc := defScope s_Series_holds) (by decide +kernel)) (fun _ _ _ _ _ => pg_name (i := 2) sc_Series_holds.nd rfl (Or.inl rfl)) (fun _ _ _ _ _ => pts_nil) (fun _ _ _ _ _ => (pe_methD G_holds hr pass0 (pv 2) (pa_cons (pv 1) pa_nil) (Nat.le_refl _)))) pa_nil)))), ?_⟩
    refine ⟨_, rfl, a, _, dx, _, _, rfl, ha, T.parts.c_Series.cl, T.parts.np_sr, lk1s, t, rfl, ⟨_, SqT.of ht⟩, fun D nD => lc_tup (K := K) (a := t) (xs := ws) (fun i H' => Same H H' ∧ H' D = some (.lst ((cs.map fun c => V.bl (c.holds (imF kvs))).take i)))
      ⟨Same.new nD, upd_same⟩ (fun i H' _ q => SqT.of (q.1 _ _ ht)) ?_ ?_⟩
    · rintro i y H2 hy ⟨q1, q2⟩
      obtain ⟨c', hc', p'⟩ := (ps.mono (Same.imm q1)).at hy
      obtain ⟨a', C', dx', fs', rfl, ha', hC', hl'⟩ := meth_of (m := "holds") (by decide +kernel) p'
      have hm := List.mem_of_getElem? hc'
      have h1 := Cond.depth_mem hm
      have h2 := Cond.size_mem hm
      refine ⟨rfl, _, rfl, a', C', dx', fs', rfl, ha', hC', hl', _, rfl, a', dx', d, fs', c', kvs, rfl, ha', p', q1 _ _ hD, hg, by omega, by omega, fun H3 s3 => ?_⟩
      exact lc_push (q1.trans s3) nD (s3 _ _ q2) (by rw [List.getElem?_map, hc']; rfl) (by rw [List.length_map]; omega)
    · rintro H2 ⟨q1, q2⟩
      rw [hlen, List.take_of_length_le (by simp)] at q2
      refine ⟨D, cs.map (Cond.holds (imF kvs)), rfl, SqL.of ?_, ?_⟩
      · rw [q2, List.map_map]
        rfl
      · have e : (Cond.grp true cs).holds (imF kvs) = (cs.map (Cond.holds (imF kvs))).all id := by rw [Cond.holds, Cond.alls_map]
        rw [← e]
        exact q _ q1
theorem ok_holds_br (T : THolds K mg cl) {n k : Nat} (G_holds : DispAt P w K mg base CX0 cl.has "holds" k ["self", "image"] (spHolds cl n)) :
    ∃ f fd, Cls K cl.br ∧ Meth K cl.br "holds" f ∧ Binds K fd ["self", "image"] [] ∧ FnOk P w K mg base CX0 (k + 1) f fd ["self", "image"] (spHolds cl (n + 1) cl.br) := by
  refine methAt_ok T.parts.c_Branch.cl T.m_holds_br sc_Branch_holds (fun vs H Q E h => ?_) (fun f cdv A outer st H vs Q E hr h => ?_)
  · obtain ⟨a, dx, d, fs, c, kvs, rfl, _⟩ := h; rfl
  · obtain ⟨a, dx, d, fs, c, kvs, rfl, ha, p, hD, hg, hd, hz, q⟩ := h
    obtain ⟨t, ws, cs, rfl, rfl, ht, ps⟩ := inv_gr (s := false) T.parts.nd rfl ha p
    rw [Cond.depth] at hd
    rw [Cond.size] at hz
    have hlen := ps.length
    have hz2 := Cond.len_sizes cs
    refine ⟨_, (pss_one (ps_ret (pe_callB (cr_any rfl) (by rfl) T.z_any (by decide +kernel) (pa_cons (pe_lc (own := [("part", 2)]) (g := gName 2) (tt := tYes) rfl sc_Branch_holds.nd (pi_tup (pe_fld (pv 0) rfl)) (blkOk_by (own := [("part", 2)]) (N := ["self", "image", "part"]) (sc := defScope s_Branch_holds) (by decide +kernel)) (fun _ _ _ _ _ => pg_name (i := 2) sc_Branch_holds.nd rfl (Or.inl rfl)) (fun _ _ _ _ _ => pts_nil) (fun _ _ _ _ _ => (pe_methD G_holds hr pass0 (pv 2) (pa_cons (pv 1) pa_nil) (Nat.le_refl _)))) pa_nil)))), ?_⟩
    refine ⟨_, rfl, a, _, dx, _, _, rfl, ha, T.parts.c_Branch.cl, T.parts.np_br, lk1s, t, rfl, ⟨_, SqT.of ht⟩, fun D nD => lc_tup (K := K) (a := t) (xs := ws) (fun i H' => Same H H' ∧ H' D = some (.lst ((cs.map fun c => V.bl (c.holds (imF kvs))).take i)))
      ⟨Same.new nD, upd_same⟩ (fun i H' _ q => SqT.of (q.1 _ _ ht)) ?_ ?_⟩
    · rintro i y H2 hy ⟨q1, q2⟩
      obtain ⟨c', hc', p'⟩ := (ps.mono (Same.imm q1)).at hy
      obtain ⟨a', C', dx', fs', rfl, ha', hC', hl'⟩ := meth_of (m := "holds") (by decide +kernel) p'
      have hm := List.mem_of_getElem? hc'
      have h1 := Cond.depth_mem hm
      have h2 := Cond.size_mem hm
      refine ⟨rfl, _, rfl, a', C', dx', fs', rfl, ha', hC', hl', _, rfl, a', dx', d, fs', c', kvs, rfl, ha', p', q1 _ _ hD, hg, by omega, by omega, fun H3 s3 => ?_⟩
      exact lc_push (q1.trans s3) nD (s3 _ _ q2) (by rw [List.getElem?_map, hc']; rfl) (by rw [List.length_map]; omega)
    · rintro H2 ⟨q1, q2⟩
      rw [hlen, List.take_of_length_le (by simp)] at q2
      refine ⟨D, cs.map (Cond.holds (imF kvs)), rfl, SqL.of ?_, ?_⟩
      · rw [q2, List.map_map]
        rfl
      · have e : (Cond.grp false cs).holds (imF kvs) = (cs.map (Cond.holds (imF kvs))).any id := by rw [Cond.holds, Cond.anys_map]
        rw [← e]
        exact q _ q1
theorem disp_holds (T : THolds K mg cl) : ∀ n : Nat, DispAt P w K mg base CX0 cl.has "holds" (n + 1) ["self", "image"] (spHolds cl n)
  | 0 => by
    refine ⟨fun C hC => ?_⟩
    have vac : ∀ C vs H Q E, spHolds cl 0 C vs H Q E → False := by
      rintro C vs H Q E ⟨a, dx, d, fs, c, kvs, rfl, ha, p, _, _, hd, _⟩
      exact absurd c.depth_pos (by omega)
    rcases hC with rfl | rfl | rfl | rfl | rfl
    · exact ok_holds_fx T 0
    · exact ok_holds_ct T 0
    all_goals
      refine methAt_ok (T.parts.cls (by simp [Cl.has])) (by first | exact T.m_holds_tn | exact T.m_holds_sr | exact T.m_holds_br) (by first | exact sc_Turned_holds | exact sc_Series_holds | exact sc_Branch_holds) (fun vs H Q E h => (vac _ _ _ _ _ h).elim) (fun f cdv A outer s H vs Q E hr h => (vac _ _ _ _ _ h).elim)
  | n + 1 => by
    have ih := disp_holds T n
    refine ⟨fun C hC => ?_⟩
    rcases hC with rfl | rfl | rfl | rfl | rfl
    · obtain ⟨f, fd, h1, h2, h3, h4⟩ := ok_holds_fx (P := P) (w := w) (base := base) T (n + 1)
      exact ⟨f, fd, h1, h2, h3, h4.mono (by omega)⟩
    · obtain ⟨f, fd, h1, h2, h3, h4⟩ := ok_holds_ct (P := P) (w := w) (base := base) T (n + 1)
      exact ⟨f, fd, h1, h2, h3, h4.mono (by omega)⟩
    · exact ok_holds_tn T ih
    · exact ok_holds_sr T ih
    · exact ok_holds_br T ih
end

--%% N5
/-! ## the classes of errors -/
structure Xc where
  err : Addr
  name : Addr
  part : Addr
  end_ : Addr
  ladder : Addr
  text : Addr
  row : Addr
  sheet : Addr
  state : Addr
  match_ : Addr
  many : Addr

inductive Xk where
  | name
  | part
  | end_
  | ladder
  | row
  | state
  | many
deriving DecidableEq
def Xc.at (xc : Xc) : Xk → Addr
  | .name => xc.name
  | .part => xc.part
  | .end_ => xc.end_
  | .ladder => xc.ladder
  | .row => xc.row
  | .state => xc.state
  | .many => xc.many
def Xk.str : Xk → Str
  | .name => "name"
  | .part => "part"
  | .end_ => "end"
  | .ladder => "ladder"
  | .row => "row"
  | .state => "state"
  | .many => "many"
structure TExs (K : PySem.W.Frag) (mg : Str → Option Value) (xc : Xc) : Prop where
  e_err : ErrAt K mg "LadderError" xc.err
  e_name : ExcAt K mg "NoName" xc.name xc.err
  e_part : ExcAt K mg "NoPart" xc.part xc.err
  e_end : ExcAt K mg "NoEnd" xc.end_ xc.err
  e_ladder : ExcAt K mg "NoLadder" xc.ladder xc.err
  e_row : ExcAt K mg "NoRow" xc.row xc.err
  e_state : ExcAt K mg "NoState" xc.state xc.err
  e_many : ExcAt K mg "TooMany" xc.many xc.err
  ndx : [xc.err, xc.name, xc.part, xc.end_, xc.ladder, xc.row, xc.state, xc.many].Nodup
section
variable {K : PySem.W.Frag} {mg : Str → Option Value} {xc : Xc}
theorem TExs.of (T : TExs K mg xc) (b : Xk) : ∃ x, ExcAt K mg x (xc.at b) xc.err := by
  cases b
  · exact ⟨_, T.e_name⟩
  · exact ⟨_, T.e_part⟩
  · exact ⟨_, T.e_end⟩
  · exact ⟨_, T.e_ladder⟩
  · exact ⟨_, T.e_row⟩
  · exact ⟨_, T.e_state⟩
  · exact ⟨_, T.e_many⟩
theorem TExs.err (T : TExs K mg xc) (b : Xk) : xc.at b ≠ xc.err := by
  have nd := T.ndx
  simp only [List.nodup_cons, List.mem_cons, List.not_mem_nil, or_false, not_or] at nd
  intro e
  cases b <;> simp only [Xc.at] at e <;> simp_all
theorem TExs.inj (T : TExs K mg xc) (a b : Xk) (h : xc.at a = xc.at b) : a = b := by
  have nd := T.ndx
  simp only [List.nodup_cons, List.mem_cons, List.not_mem_nil, or_false, not_or] at nd
  cases a <;> cases b <;> first | rfl | (exfalso; simp only [Xc.at] at h; simp_all)
theorem TExs.kit (T : TExs K mg xc) (a b : Xk) : PySem.W.kitOne K (.ref (xc.at a)) (.ref (xc.at b)) = some (decide (a = b)) := by
  obtain ⟨x, h1⟩ := T.of a
  obtain ⟨y, h2⟩ := T.of b
  rw [h1.kit h2 ⟨T.err a, T.err b⟩]
  congr 1
  by_cases h : a = b
  · rw [decide_eq_true h, h, decide_eq_true rfl]
  · rw [decide_eq_false h, decide_eq_false fun e => h (T.inj a b e)]
end


/-! ## ends -/
abbrev s_End___init__ : Stmt := inClass (top 18) 0
theorem sc_End___init__ : FnScope ["self", "name"] ["self", "name"] (defScope s_End___init__) := ⟨rfl, rfl, rfl, by decide +kernel, rfl, by decide +kernel, by decide +kernel⟩
abbrev s_Counting___init__ : Stmt := inClass (top 22) 0
theorem sc_Counting___init__ : FnScope ["self", "name", "most"] ["self", "name", "most"] (defScope s_Counting___init__) := ⟨rfl, rfl, rfl, by decide +kernel, rfl, by decide +kernel, by decide +kernel⟩
abbrev s_End_ahead : Stmt := inClass (top 18) 1
theorem sc_End_ahead : FnScope ["self"] ["self"] (defScope s_End_ahead) := ⟨rfl, rfl, rfl, by decide +kernel, rfl, by decide +kernel, by decide +kernel⟩
abbrev s_Latch_ahead : Stmt := inClass (top 20) 0
theorem sc_Latch_ahead : FnScope ["self"] ["self"] (defScope s_Latch_ahead) := ⟨rfl, rfl, rfl, by decide +kernel, rfl, by decide +kernel, by decide +kernel⟩
abbrev s_Unlatch_ahead : Stmt := inClass (top 21) 0
theorem sc_Unlatch_ahead : FnScope ["self"] ["self"] (defScope s_Unlatch_ahead) := ⟨rfl, rfl, rfl, by decide +kernel, rfl, by decide +kernel, by decide +kernel⟩
abbrev s_Timer_ahead : Stmt := inClass (top 23) 0
theorem sc_Timer_ahead : FnScope ["self"] ["self"] (defScope s_Timer_ahead) := ⟨rfl, rfl, rfl, by decide +kernel, rfl, by decide +kernel, by decide +kernel⟩
abbrev s_Counter_ahead : Stmt := inClass (top 24) 0
theorem sc_Counter_ahead : FnScope ["self"] ["self"] (defScope s_Counter_ahead) := ⟨rfl, rfl, rfl, by decide +kernel, rfl, by decide +kernel, by decide +kernel⟩
abbrev s_End_behind : Stmt := inClass (top 18) 2
theorem sc_End_behind : FnScope ["self"] ["self"] (defScope s_End_behind) := ⟨rfl, rfl, rfl, by decide +kernel, rfl, by decide +kernel, by decide +kernel⟩
abbrev s_Counting_behind : Stmt := inClass (top 22) 1
theorem sc_Counting_behind : FnScope ["self"] ["self"] (defScope s_Counting_behind) := ⟨rfl, rfl, rfl, by decide +kernel, rfl, by decide +kernel, by decide +kernel⟩
abbrev s_End_text : Stmt := inClass (top 18) 3
theorem sc_End_text : FnScope ["self"] ["self"] (defScope s_End_text) := ⟨rfl, rfl, rfl, by decide +kernel, rfl, by decide +kernel, by decide +kernel⟩
inductive Ek where
  | coil | latch | unlatch | timer | counter
deriving DecidableEq
/-- the classes of ends -/
structure Ce where
  coil : Addr
  latch : Addr
  unlatch : Addr
  timer : Addr
  counter : Addr
  en : Addr
def Ce.at (ce : Ce) : Ek → Addr
  | .coil => ce.coil
  | .latch => ce.latch
  | .unlatch => ce.unlatch
  | .timer => ce.timer
  | .counter => ce.counter
def Ce.has (ce : Ce) (C : Addr) : Prop := ∃ k, C = ce.at k
def Ek.counts : Ek → Bool
  | .timer => true
  | .counter => true
  | _ => false
/-- an end: its kind, its name, its greatest count -/
structure EndC where
  k : Ek
  n : Str
  m : Int
def EndC.fs (e : EndC) : List (Str × V) := if e.k.counts then [("name", .str e.n), ("most", .int e.m)] else [("name", .str e.n)]
def IsE (ce : Ce) (H : Hp) (v : V) (e : EndC) : Prop := ∃ a dx, v = .ref a ∧ H a = some (.ins (ce.at e.k) dx e.fs)
theorem IsE.mono {ce : Ce} {H H' : Hp} {v : V} {e : EndC} (k : Imm ce.has H H') (p : IsE ce H v e) : IsE ce H' v e := by
  obtain ⟨a, dx, e1, h⟩ := p
  exact ⟨a, dx, e1, k _ _ h ⟨_, rfl⟩⟩
def Ek.ahead : Ek → Str
  | .coil => ""
  | .latch => "set "
  | .unlatch => "reset "
  | .timer => "timer "
  | .counter => "counter "
def EndC.behind (e : EndC) : Str := if e.k.counts then " " ++ (toString e.m : String) else ""
def EndC.text (e : EndC) : Str := e.k.ahead ++ e.n ++ e.behind
/-- as it may be -/
def EndC.ok (e : EndC) : Prop := isName e.n = true ∧ 1 ≤ e.m ∧ e.m ≤ 9
structure TEnds (K : PySem.W.Frag) (mg : Str → Option Value) (ce : Ce) : Prop where
  names : TNames K mg
  c_Coil : ClsAt K mg "Coil" ce.coil
  c_Latch : ClsAt K mg "Latch" ce.latch
  c_Unlatch : ClsAt K mg "Unlatch" ce.unlatch
  c_Timer : ClsAt K mg "Timer" ce.timer
  c_Counter : ClsAt K mg "Counter" ce.counter
  c_End : ClsAt K mg "End" ce.en
  nn_coil : NoAttr K ce.coil "name"
  nn_latch : NoAttr K ce.latch "name"
  nn_unlatch : NoAttr K ce.unlatch "name"
  nn_timer : NoAttr K ce.timer "name"
  nn_counter : NoAttr K ce.counter "name"
  nm_timer : NoAttr K ce.timer "most"
  nm_counter : NoAttr K ce.counter "most"
  m_ahead_coil : MethAt K ce.coil "ahead" "End.ahead" s_End_ahead ["self"]
  m_ahead_latch : MethAt K ce.latch "ahead" "Latch.ahead" s_Latch_ahead ["self"]
  m_ahead_unlatch : MethAt K ce.unlatch "ahead" "Unlatch.ahead" s_Unlatch_ahead ["self"]
  m_ahead_timer : MethAt K ce.timer "ahead" "Timer.ahead" s_Timer_ahead ["self"]
  m_ahead_counter : MethAt K ce.counter "ahead" "Counter.ahead" s_Counter_ahead ["self"]
  m_behind_coil : MethAt K ce.coil "behind" "End.behind" s_End_behind ["self"]
  m_behind_latch : MethAt K ce.latch "behind" "End.behind" s_End_behind ["self"]
  m_behind_unlatch : MethAt K ce.unlatch "behind" "End.behind" s_End_behind ["self"]
  m_behind_timer : MethAt K ce.timer "behind" "Counting.behind" s_Counting_behind ["self"]
  m_behind_counter : MethAt K ce.counter "behind" "Counting.behind" s_Counting_behind ["self"]
  m_text_coil : MethAt K ce.coil "text" "End.text" s_End_text ["self"]
  m_text_latch : MethAt K ce.latch "text" "End.text" s_End_text ["self"]
  m_text_unlatch : MethAt K ce.unlatch "text" "End.text" s_End_text ["self"]
  m_text_timer : MethAt K ce.timer "text" "End.text" s_End_text ["self"]
  m_text_counter : MethAt K ce.counter "text" "End.text" s_End_text ["self"]
  m_init_coil : MethAt K ce.coil "__init__" "End.__init__" s_End___init__ ["self", "name"]
  m_init_latch : MethAt K ce.latch "__init__" "End.__init__" s_End___init__ ["self", "name"]
  m_init_unlatch : MethAt K ce.unlatch "__init__" "End.__init__" s_End___init__ ["self", "name"]
  m_init_timer : MethAt K ce.timer "__init__" "Counting.__init__" s_Counting___init__ ["self", "name", "most"]
  m_init_counter : MethAt K ce.counter "__init__" "Counting.__init__" s_Counting___init__ ["self", "name", "most"]
  f_init : ClsFnAt K ce.en "__init__" "End.__init__" s_End___init__ ["self", "name"]
  nde : [ce.coil, ce.latch, ce.unlatch, ce.timer, ce.counter].Nodup
  z_isinstance : mg "isinstance" = none
  z_int : mg "int" = none
  z_bool : mg "bool" = none
  z_str : mg "str" = none
  g_MOST_COUNT : GlobC mg "MOST_COUNT" (.int 9)
section
variable {P : Program} {w : World} {K : PySem.W.Frag} {mg : Str → Option Value} {base : Heap} {ce : Ce} {xc : Xc}
theorem isName_len' {z : Str} (h : isName z = true) : z.length ≤ 8 := by
  unfold isName at h
  simp only [Bool.and_eq_true, decide_eq_true_eq] at h
  exact h.1.2
theorem TEnds.cls (T : TEnds K mg ce) : ∀ k : Ek, Cls K (ce.at k)
  | .coil => T.c_Coil.cl
  | .latch => T.c_Latch.cl
  | .unlatch => T.c_Unlatch.cl
  | .timer => T.c_Timer.cl
  | .counter => T.c_Counter.cl
theorem TEnds.nn (T : TEnds K mg ce) : ∀ k : Ek, NoAttr K (ce.at k) "name"
  | .coil => T.nn_coil
  | .latch => T.nn_latch
  | .unlatch => T.nn_unlatch
  | .timer => T.nn_timer
  | .counter => T.nn_counter
theorem TEnds.nm (T : TEnds K mg ce) : ∀ k : Ek, k.counts = true → NoAttr K (ce.at k) "most"
  | .timer, _ => T.nm_timer
  | .counter, _ => T.nm_counter
theorem TEnds.inj (T : TEnds K mg ce) (a b : Ek) (h : ce.at a = ce.at b) : a = b := by
  have nd := T.nde
  simp only [List.nodup_cons, List.mem_cons, List.not_mem_nil, or_false, not_or] at nd
  cases a <;> cases b <;> first | rfl | (exfalso; simp only [Ce.at] at h; simp_all)
theorem E_name (e : EndC) : List.lookup ("name" : Str) e.fs = some (.str e.n) := by
  unfold EndC.fs
  split <;> simp [List.lookup]
theorem E_most {e : EndC} (h : e.k.counts = true) : List.lookup ("most" : Str) e.fs = some (.int e.m) := by
  unfold EndC.fs
  rw [if_pos h]
  have e1 : (("most" : Str) == ("name" : Str)) = false := by decide +kernel
  simp [List.lookup, e1]
theorem E_no {m : Str} (e : EndC) (h1 : (m == ("name" : Str)) = false) (h2 : (m == ("most" : Str)) = false) : List.lookup m e.fs = none := by
  unfold EndC.fs
  split <;> simp [List.lookup, h1, h2]
theorem most_len {m : Int} (h1 : 1 ≤ m) (h2 : m ≤ 9) : (Str.ofString (toString m)).length = 1 := by
  rcases (by omega : m = 1 ∨ m = 2 ∨ m = 3 ∨ m = 4 ∨ m = 5 ∨ m = 6 ∨ m = 7 ∨ m = 8 ∨ m = 9) with rfl | rfl | rfl | rfl | rfl | rfl | rfl | rfl | rfl <;> decide +kernel
theorem most_log {m : Int} (h1 : 1 ≤ m) (h2 : m ≤ 9) : m.natAbs.log2 < 1920 := by
  rcases (by omega : m = 1 ∨ m = 2 ∨ m = 3 ∨ m = 4 ∨ m = 5 ∨ m = 6 ∨ m = 7 ∨ m = 8 ∨ m = 9) with rfl | rfl | rfl | rfl | rfl | rfl | rfl | rfl | rfl <;> decide +kernel
def spE (ce : Ce) (f : EndC → V) (C : Addr) : Sp := fun vs H Q _ => ∃ (v : V) (e : EndC), vs = [v] ∧ IsE ce H v e ∧ C = ce.at e.k ∧ 1 ≤ e.m ∧ e.m ≤ 9 ∧ isName e.n = true ∧ Q (f e) H
theorem disp_ahead (T : TEnds K mg ce) : DispAt P w K mg base CX0 ce.has "ahead" 1 ["self"] (spE ce fun e => .str e.k.ahead) := by
  refine ⟨fun C hC => ?_⟩
  obtain ⟨k, rfl⟩ := hC
  cases k
  · refine methAt_ok (T.cls .coil) T.m_ahead_coil sc_End_ahead (fun vs H Q E h => ?_) (fun f cdv A outer s H vs Q E hr h => ?_)
    · obtain ⟨v, e, rfl, _⟩ := h; rfl
    · obtain ⟨v, e, rfl, p, hk, h1, h2, hn, q⟩ := h
      have q : Q (.str e.k.ahead) H := q
      rw [← T.inj _ _ hk] at q
      refine ⟨_, (pss_one (ps_ret pe_str)), ?_⟩
      walk_at "rd"
      exact q
  · refine methAt_ok (T.cls .latch) T.m_ahead_latch sc_Latch_ahead (fun vs H Q E h => ?_) (fun f cdv A outer s H vs Q E hr h => ?_)
    · obtain ⟨v, e, rfl, _⟩ := h; rfl
    · obtain ⟨v, e, rfl, p, hk, h1, h2, hn, q⟩ := h
      have q : Q (.str e.k.ahead) H := q
      rw [← T.inj _ _ hk] at q
      refine ⟨_, (pss_one (ps_ret pe_str)), ?_⟩
      walk_at "rd"
      exact q
  · refine methAt_ok (T.cls .unlatch) T.m_ahead_unlatch sc_Unlatch_ahead (fun vs H Q E h => ?_) (fun f cdv A outer s H vs Q E hr h => ?_)
    · obtain ⟨v, e, rfl, _⟩ := h; rfl
    · obtain ⟨v, e, rfl, p, hk, h1, h2, hn, q⟩ := h
      have q : Q (.str e.k.ahead) H := q
      rw [← T.inj _ _ hk] at q
      refine ⟨_, (pss_one (ps_ret pe_str)), ?_⟩
      walk_at "rd"
      exact q
  · refine methAt_ok (T.cls .timer) T.m_ahead_timer sc_Timer_ahead (fun vs H Q E h => ?_) (fun f cdv A outer s H vs Q E hr h => ?_)
    · obtain ⟨v, e, rfl, _⟩ := h; rfl
    · obtain ⟨v, e, rfl, p, hk, h1, h2, hn, q⟩ := h
      have q : Q (.str e.k.ahead) H := q
      rw [← T.inj _ _ hk] at q
      refine ⟨_, (pss_one (ps_ret pe_str)), ?_⟩
      walk_at "rd"
      exact q
  · refine methAt_ok (T.cls .counter) T.m_ahead_counter sc_Counter_ahead (fun vs H Q E h => ?_) (fun f cdv A outer s H vs Q E hr h => ?_)
    · obtain ⟨v, e, rfl, _⟩ := h; rfl
    · obtain ⟨v, e, rfl, p, hk, h1, h2, hn, q⟩ := h
      have q : Q (.str e.k.ahead) H := q
      rw [← T.inj _ _ hk] at q
      refine ⟨_, (pss_one (ps_ret pe_str)), ?_⟩
      walk_at "rd"
      exact q
theorem disp_behind (T : TEnds K mg ce) : DispAt P w K mg base CX0 ce.has "behind" 1 ["self"] (spE ce fun e => .str e.behind) := by
  refine ⟨fun C hC => ?_⟩
  obtain ⟨k, rfl⟩ := hC
  cases k
  · refine methAt_ok (T.cls .coil) T.m_behind_coil sc_End_behind (fun vs H Q E h => ?_) (fun f cdv A outer s H vs Q E hr h => ?_)
    · obtain ⟨v, e, rfl, _⟩ := h; rfl
    · obtain ⟨v, e, rfl, p, hk, h1, h2, hn, q⟩ := h
      have q : Q (.str e.behind) H := q
      unfold EndC.behind at q
      rw [← T.inj _ _ hk] at q
      refine ⟨_, (pss_one (ps_ret pe_str)), ?_⟩
      walk_at "rd"
      exact q
  · refine methAt_ok (T.cls .latch) T.m_behind_latch sc_End_behind (fun vs H Q E h => ?_) (fun f cdv A outer s H vs Q E hr h => ?_)
    · obtain ⟨v, e, rfl, _⟩ := h; rfl
    · obtain ⟨v, e, rfl, p, hk, h1, h2, hn, q⟩ := h
      have q : Q (.str e.behind) H := q
      unfold EndC.behind at q
      rw [← T.inj _ _ hk] at q
      refine ⟨_, (pss_one (ps_ret pe_str)), ?_⟩
      walk_at "rd"
      exact q
  · refine methAt_ok (T.cls .unlatch) T.m_behind_unlatch sc_End_behind (fun vs H Q E h => ?_) (fun f cdv A outer s H vs Q E hr h => ?_)
    · obtain ⟨v, e, rfl, _⟩ := h; rfl
    · obtain ⟨v, e, rfl, p, hk, h1, h2, hn, q⟩ := h
      have q : Q (.str e.behind) H := q
      unfold EndC.behind at q
      rw [← T.inj _ _ hk] at q
      refine ⟨_, (pss_one (ps_ret pe_str)), ?_⟩
      walk_at "rd"
      exact q
  · refine methAt_ok (T.cls .timer) T.m_behind_timer sc_Counting_behind (fun vs H Q E h => ?_) (fun f cdv A outer s H vs Q E hr h => ?_)
    · obtain ⟨v, e, rfl, _⟩ := h; rfl
    · obtain ⟨v, e, rfl, p, hk, h1, h2, hn, q⟩ := h
      have ek := T.inj _ _ hk
      have hcn : e.k.counts = true := by rw [← ek]; rfl
      have q : Q (.str e.behind) H := q
      unfold EndC.behind at q
      rw [hcn] at q
      obtain ⟨a, dx, rfl, ha⟩ := p
      refine ⟨_, (pss_one (ps_ret (pe_op op_add_str pe_str (pe_callTy call_str_int (by rfl) T.z_str (show PySem.bootBuiltins "str" = some (.type "str") by decide +kernel) (pa_cons (pe_fld (pv 0) rfl) pa_nil))))), ?_⟩
      walk_at "rd"
      rw [if_pos rfl] at q
      exact ⟨_, rfl, a, _, dx, _, _, rfl, ha, T.cls _, T.nm _ hcn, E_most hcn, e.m, rfl, most_log h1 h2, line_ge (by rw [most_len h1 h2]; decide +kernel), q⟩
  · refine methAt_ok (T.cls .counter) T.m_behind_counter sc_Counting_behind (fun vs H Q E h => ?_) (fun f cdv A outer s H vs Q E hr h => ?_)
    · obtain ⟨v, e, rfl, _⟩ := h; rfl
    · obtain ⟨v, e, rfl, p, hk, h1, h2, hn, q⟩ := h
      have ek := T.inj _ _ hk
      have hcn : e.k.counts = true := by rw [← ek]; rfl
      have q : Q (.str e.behind) H := q
      unfold EndC.behind at q
      rw [hcn] at q
      obtain ⟨a, dx, rfl, ha⟩ := p
      refine ⟨_, (pss_one (ps_ret (pe_op op_add_str pe_str (pe_callTy call_str_int (by rfl) T.z_str (show PySem.bootBuiltins "str" = some (.type "str") by decide +kernel) (pa_cons (pe_fld (pv 0) rfl) pa_nil))))), ?_⟩
      walk_at "rd"
      rw [if_pos rfl] at q
      exact ⟨_, rfl, a, _, dx, _, _, rfl, ha, T.cls _, T.nm _ hcn, E_most hcn, e.m, rfl, most_log h1 h2, line_ge (by rw [most_len h1 h2]; decide +kernel), q⟩
theorem disp_text (T : TEnds K mg ce) : DispAt P w K mg base CX0 ce.has "text" 2 ["self"] (spE ce fun e => .str e.text) := by
  have G_ahead : DispAt P w K mg base CX0 ce.has "ahead" 1 ["self"] (spE ce fun e => .str e.k.ahead) := disp_ahead T
  have G_behind : DispAt P w K mg base CX0 ce.has "behind" 1 ["self"] (spE ce fun e => .str e.behind) := disp_behind T
  refine ⟨fun C hC => ?_⟩
  obtain ⟨k, rfl⟩ := hC
  have D : MethAt K (ce.at k) "text" "End.text" s_End_text ["self"] := by
    cases k
    · exact T.m_text_coil
    · exact T.m_text_latch
    · exact T.m_text_unlatch
    · exact T.m_text_timer
    · exact T.m_text_counter
  refine methAt_ok (T.cls k) D sc_End_text (fun vs H Q E h => ?_) (fun f cdv A outer s H vs Q E hr h => ?_)
  · obtain ⟨v, e, rfl, _⟩ := h; rfl
  · obtain ⟨v, e, rfl, p, hk, h1, h2, hn, q⟩ := h
    have hnl := isName_len' hn
    refine ⟨_, (pss_one (ps_ret (pe_op op_add_str (pe_op op_add_str (pe_methD0 G_ahead hr pass0 (pv 0)) (pe_fld (pv 0) rfl)) (pe_methD0 G_behind hr pass0 (pv 0))))), ?_⟩
    walk_at "rd"
    have q : Q (.str e.text) H := q
    obtain ⟨a, dx, rfl, ha⟩ := id p
    have l1 : e.k.ahead.length ≤ 8 := by
      cases e.k <;> decide +kernel
    have l2 : e.behind.length ≤ 2 := by
      unfold EndC.behind
      split
      · rw [len_app, most_len h1 h2]
        decide +kernel
      · decide +kernel
    refine ⟨_, rfl, a, ce.at e.k, dx, e.fs, rfl, ha, ⟨_, rfl⟩, E_no e (by decide +kernel) (by decide +kernel), .ref a, e, rfl, p, rfl, h1, h2, hn, ?_⟩
    refine ⟨_, rfl, a, _, dx, _, _, rfl, ha, T.cls _, T.nn _, E_name e, ?_⟩
    refine ⟨_, rfl, _, rfl, line_ge (by omega), _, rfl, a, ce.at e.k, dx, e.fs, rfl, ha, ⟨_, rfl⟩, E_no e (by decide +kernel) (by decide +kernel), .ref a, e, rfl, p, rfl, h1, h2, hn, ?_⟩
    exact ⟨_, rfl, line_ge (by rw [len_app]; omega), q⟩
def spInitEn (ce : Ce) (xc : Xc) : Sp := fun vs H Q E => ∃ (x dx : Addr) (k : Ek) (n : Str), vs = [.ref x, .str n] ∧ H x = some (.ins (ce.at k) dx []) ∧ n.length ≤ sizeLine ∧
  (isName n = true → ∀ H' : Hp, H' x = some (.ins (ce.at k) dx [("name", .str n)]) → But x H H' → Q .non H') ∧ (isName n = false → E (.ref xc.name) none H)
theorem body_en (T : TEnds K mg ce) (X : TExs K mg xc) : ClsFn P w K mg base (L2.CX P w) ce.en "__init__" 3 ["self", "name"] (spInitEn ce xc) := by
  have G_is_name : FnAt P w K mg base CX0 "is_name" 2 _ spIsName := ok_is_name T.names
  have e_NoName := X.e_name
  refine clsFn_okX T.f_init sc_End___init__ (fun vs H Q E h => ?_) (fun f cdv A outer s H vs Q E hr h => ?_)
  · obtain ⟨x, dx, k, n, rfl, _⟩ := h; rfl
  · obtain ⟨x, dx, k, n, rfl, hx, hl, q, qx⟩ := h
    refine ⟨_, (pss_cons (ps_if (pt_not (pt_val (pe_callF G_is_name hr pass0 (pa_cons (pv 1) pa_nil)))) (pss_one (ps_raiseO rfl e_NoName (L2.takes_of rfl rfl rfl rfl))) pss_nil)
        (pss_one (ps_fld (pv 0) (pv 1) rfl))), ?_⟩
    refine ⟨_, rfl, n, rfl, hl, ?_⟩
    cases hn : isName n with
    | false => exact ⟨false, rfl, iteT (qx hn)⟩
    | true =>
      refine ⟨true, rfl, iteF ?_⟩
      refine ⟨_, rfl, _, rfl, x, _, dx, [], rfl, hx, T.cls k, T.nn k, (by show 0 < 1000; decide), ?_⟩
      exact q hn _ upd_same But.upd
theorem init_en (T : TEnds K mg ce) (X : TExs K mg xc) {nm : Str} (k0 : Ek) (c : ClsAt K mg nm (ce.at k0)) (D : MethAt K (ce.at k0) "__init__" "End.__init__" s_End___init__ ["self", "name"]) : MakAt P w K mg base (L2.CX P w) nm (ce.at k0) 3 ["self", "name"] (spInitEn ce xc) := by
  have G_is_name : FnAt P w K mg base CX0 "is_name" 2 _ spIsName := ok_is_name T.names
  have e_NoName := X.e_name
  refine makAt_of c (methAt_okX c.cl D sc_End___init__ (fun vs H Q E h => ?_) (fun f cdv A outer s H vs Q E hr h => ?_))
  · obtain ⟨x, dx, k, n, rfl, _⟩ := h; rfl
  · obtain ⟨x, dx, k, n, rfl, hx, hl, q, qx⟩ := h
    refine ⟨_, (pss_cons (ps_if (pt_not (pt_val (pe_callF G_is_name hr pass0 (pa_cons (pv 1) pa_nil)))) (pss_one (ps_raiseO rfl e_NoName (L2.takes_of rfl rfl rfl rfl))) pss_nil)
        (pss_one (ps_fld (pv 0) (pv 1) rfl))), ?_⟩
    refine ⟨_, rfl, n, rfl, hl, ?_⟩
    cases hn : isName n with
    | false => exact ⟨false, rfl, iteT (qx hn)⟩
    | true =>
      refine ⟨true, rfl, iteF ?_⟩
      refine ⟨_, rfl, _, rfl, x, _, dx, [], rfl, hx, T.cls k, T.nn k, (by show 0 < 1000; decide), ?_⟩
      exact q hn _ upd_same But.upd
def spInitCo (ce : Ce) (xc : Xc) : Sp := fun vs H Q E => ∃ (x dx : Addr) (k : Ek) (n : Str) (m : Int), vs = [.ref x, .str n, .int m] ∧ H x = some (.ins (ce.at k) dx []) ∧ k.counts = true ∧ n.length ≤ sizeLine ∧
  (isName n = true → 1 ≤ m → m ≤ 9 → ∀ H' : Hp, H' x = some (.ins (ce.at k) dx [("name", .str n), ("most", .int m)]) → But x H H' → Q .non H') ∧ (isName n = false → E (.ref xc.name) none H) ∧ (isName n = true → ¬ (1 ≤ m ∧ m ≤ 9) → ∀ H', But x H H' → E (.ref xc.end_) none H')
theorem init_co (T : TEnds K mg ce) (X : TExs K mg xc) {nm : Str} (k0 : Ek) (c : ClsAt K mg nm (ce.at k0)) (D : MethAt K (ce.at k0) "__init__" "Counting.__init__" s_Counting___init__ ["self", "name", "most"]) : MakAt P w K mg base (L2.CX P w) nm (ce.at k0) 4 ["self", "name", "most"] (spInitCo ce xc) := by
  have CX_End__init__ : ClsFn P w K mg base (L2.CX P w) ce.en "__init__" 3 ["self", "name"] (spInitEn ce xc) := body_en T X
  have e_NoEnd := X.e_end
  refine makAt_of c (methAt_okX c.cl D sc_Counting___init__ (fun vs H Q E h => ?_) (fun f cdv A outer s H vs Q E hr h => ?_))
  · obtain ⟨x, dx, k, n, m, rfl, _⟩ := h; rfl
  · obtain ⟨x, dx, k, n, m, rfl, hx, hk, hl, q, qn, qe⟩ := h
    refine ⟨_, (pss_cons (ps_expr (pe_clsF CX_End__init__ hr (passX (L2.takes_of rfl rfl rfl rfl)) (pe_cls T.c_End) (pa_cons (pv 0) (pa_cons (pv 1) pa_nil))))
        (pss_cons (ps_if (PW.pt (pw_or (pt_not (pt_val (pe_callB call_isInt (by rfl) T.z_isinstance (by decide +kernel) (pa_cons (pv 2) (pa_cons (pe_bltn (v := .ty "int") (by rfl) T.z_int (by decide +kernel) rfl) pa_nil))))) (pw_or (pt_val (pe_callB call_isBool (by rfl) T.z_isinstance (by decide +kernel) (pa_cons (pv 2) (pa_cons (pe_bltn (v := .ty "bool") (by rfl) T.z_bool (by decide +kernel) rfl) pa_nil)))) (pw_or1 (pt_not (pt_chain op_le op_le pe_int (pv 2) (pe_gc T.g_MOST_COUNT))))))) (pss_one (ps_raiseO rfl e_NoEnd (L2.takes_of rfl rfl rfl rfl))) pss_nil)
        (pss_one (ps_fld (pv 0) (pv 2) rfl)))), ?_⟩
    walk_at "rd"
    refine ⟨x, dx, k, n, rfl, hx, hl, fun hn H1 h1 b1 => ?_, fun hn => qn hn⟩
    unfold tChain
    walk_at "rd"
    by_cases m1 : 1 ≤ m
    · rw [decide_eq_true m1]
      by_cases m9 : m ≤ 9
      · rw [decide_eq_true m9]
        refine iteT (iteF ⟨_, rfl, _, rfl, x, _, dx, _, rfl, h1, T.cls k, T.nm k hk, (by show 1 < 1000; decide), ?_⟩)
        exact q hn m1 m9 _ upd_same (b1.trans But.upd)
      · rw [decide_eq_false m9]
        exact iteT (iteT (qe hn (fun z => m9 z.2) _ b1))
    · rw [decide_eq_false m1]
      exact iteF (qe hn (fun z => m1 z.1) _ b1)
/-! ### what making asks -/
theorem same_mkE {H : Hp} {x dx C : Addr} {fs : List (Str × V)} (nx : H x = none) (nd : H dx = none) : Same H (upd (upd H dx (.own x)) x (.ins C dx fs)) := fun b o e => by
  rw [upd_ne (ne_of_none e nx), upd_ne (ne_of_none e nd)]
  exact e
theorem mk_en {H : Hp} {k : Ek} {n : Str} {m : Int} {Q : VK} {E : XK} (hk : k.counts = false) (hl : n.length ≤ sizeLine) (q : isName n = true → ∀ (H' : Hp) (x : Addr), Same H H' → H x = none → IsE ce H' (.ref x) ⟨k, n, m⟩ → Q (.ref x) H') (qn : isName n = false → ∀ H', Same H H' → E (.ref xc.name) none H') :
    ∀ x dx, H x = none → H dx = none → dx ≠ x → spInitEn ce xc (.ref x :: ([.str n] ++ [])) (upd (upd H dx (.own x)) x (.ins (ce.at k) dx [])) (fun v H' => v = .non ∧ Q (.ref x) H') E :=
  fun x dx nx nd _ => ⟨x, dx, k, n, rfl, upd_same, hl, fun hn H' h1 h2 => ⟨rfl, q hn H' x (fun c o e => h2 c o (same_mkE nx nd c o e) (ne_of_none e nx)) nx ⟨x, dx, rfl, by unfold EndC.fs; rw [hk]; exact h1⟩⟩, fun hn => qn hn _ (same_mkE nx nd)⟩
theorem mk_co {H : Hp} {k : Ek} {n : Str} {m : Int} {Q : VK} {E : XK} (hk : k.counts = true) (hl : n.length ≤ sizeLine) (q : isName n = true → 1 ≤ m → m ≤ 9 → ∀ (H' : Hp) (x : Addr), Same H H' → H x = none → IsE ce H' (.ref x) ⟨k, n, m⟩ → Q (.ref x) H') (qn : isName n = false → ∀ H', Same H H' → E (.ref xc.name) none H')
    (qe : isName n = true → ¬ (1 ≤ m ∧ m ≤ 9) → ∀ H', Same H H' → E (.ref xc.end_) none H') :
    ∀ x dx, H x = none → H dx = none → dx ≠ x → spInitCo ce xc (.ref x :: ([.str n, .int m] ++ [])) (upd (upd H dx (.own x)) x (.ins (ce.at k) dx [])) (fun v H' => v = .non ∧ Q (.ref x) H') E :=
  fun x dx nx nd _ => ⟨x, dx, k, n, m, rfl, upd_same, hk, hl, fun hn m1 m9 H' h1 h2 => ⟨rfl, q hn m1 m9 H' x (fun c o e => h2 c o (same_mkE nx nd c o e) (ne_of_none e nx)) nx ⟨x, dx, rfl, by unfold EndC.fs; rw [hk]; exact h1⟩⟩, fun hn => qn hn _ (same_mkE nx nd), fun hn hm H' h2 => qe hn hm H' fun c o e => h2 c o (same_mkE nx nd c o e) (ne_of_none e nx)⟩
end

/-! ## isinstance of ends -/
structure TEnK (K : PySem.W.Frag) (mg : Str → Option Value) (ce : Ce) : Prop where
  ends : TEnds K mg ce
  o_coil_coil : PySem.W.kitOne K (.ref ce.coil) (.ref ce.coil) = some true
  o_coil_latch : PySem.W.kitOne K (.ref ce.coil) (.ref ce.latch) = some false
  o_coil_unlatch : PySem.W.kitOne K (.ref ce.coil) (.ref ce.unlatch) = some false
  o_coil_timer : PySem.W.kitOne K (.ref ce.coil) (.ref ce.timer) = some false
  o_coil_counter : PySem.W.kitOne K (.ref ce.coil) (.ref ce.counter) = some false
  o_latch_coil : PySem.W.kitOne K (.ref ce.latch) (.ref ce.coil) = some false
  o_latch_latch : PySem.W.kitOne K (.ref ce.latch) (.ref ce.latch) = some true
  o_latch_unlatch : PySem.W.kitOne K (.ref ce.latch) (.ref ce.unlatch) = some false
  o_latch_timer : PySem.W.kitOne K (.ref ce.latch) (.ref ce.timer) = some false
  o_latch_counter : PySem.W.kitOne K (.ref ce.latch) (.ref ce.counter) = some false
  o_unlatch_coil : PySem.W.kitOne K (.ref ce.unlatch) (.ref ce.coil) = some false
  o_unlatch_latch : PySem.W.kitOne K (.ref ce.unlatch) (.ref ce.latch) = some false
  o_unlatch_unlatch : PySem.W.kitOne K (.ref ce.unlatch) (.ref ce.unlatch) = some true
  o_unlatch_timer : PySem.W.kitOne K (.ref ce.unlatch) (.ref ce.timer) = some false
  o_unlatch_counter : PySem.W.kitOne K (.ref ce.unlatch) (.ref ce.counter) = some false
  o_timer_coil : PySem.W.kitOne K (.ref ce.timer) (.ref ce.coil) = some false
  o_timer_latch : PySem.W.kitOne K (.ref ce.timer) (.ref ce.latch) = some false
  o_timer_unlatch : PySem.W.kitOne K (.ref ce.timer) (.ref ce.unlatch) = some false
  o_timer_timer : PySem.W.kitOne K (.ref ce.timer) (.ref ce.timer) = some true
  o_timer_counter : PySem.W.kitOne K (.ref ce.timer) (.ref ce.counter) = some false
  o_counter_coil : PySem.W.kitOne K (.ref ce.counter) (.ref ce.coil) = some false
  o_counter_latch : PySem.W.kitOne K (.ref ce.counter) (.ref ce.latch) = some false
  o_counter_unlatch : PySem.W.kitOne K (.ref ce.counter) (.ref ce.unlatch) = some false
  o_counter_timer : PySem.W.kitOne K (.ref ce.counter) (.ref ce.timer) = some false
  o_counter_counter : PySem.W.kitOne K (.ref ce.counter) (.ref ce.counter) = some true
  o_coil_en : PySem.W.kitOne K (.ref ce.coil) (.ref ce.en) = some true
  o_latch_en : PySem.W.kitOne K (.ref ce.latch) (.ref ce.en) = some true
  o_unlatch_en : PySem.W.kitOne K (.ref ce.unlatch) (.ref ce.en) = some true
  o_timer_en : PySem.W.kitOne K (.ref ce.timer) (.ref ce.en) = some true
  o_counter_en : PySem.W.kitOne K (.ref ce.counter) (.ref ce.en) = some true
section
variable {K : PySem.W.Frag} {mg : Str → Option Value} {ce : Ce}
theorem TEnK.is_Coil (T : TEnK K mg ce) : Ru.IsT K ce.coil (fun C b => ∃ k : Ek, C = ce.at k ∧ b = decide (k = .coil)) := by
  rintro C b ⟨k, rfl, rfl⟩
  cases k
  · exact ⟨⟨_, _, T.ends.c_Coil⟩, T.o_coil_coil⟩
  · exact ⟨⟨_, _, T.ends.c_Latch⟩, T.o_latch_coil⟩
  · exact ⟨⟨_, _, T.ends.c_Unlatch⟩, T.o_unlatch_coil⟩
  · exact ⟨⟨_, _, T.ends.c_Timer⟩, T.o_timer_coil⟩
  · exact ⟨⟨_, _, T.ends.c_Counter⟩, T.o_counter_coil⟩
theorem TEnK.is_Latch (T : TEnK K mg ce) : Ru.IsT K ce.latch (fun C b => ∃ k : Ek, C = ce.at k ∧ b = decide (k = .latch)) := by
  rintro C b ⟨k, rfl, rfl⟩
  cases k
  · exact ⟨⟨_, _, T.ends.c_Coil⟩, T.o_coil_latch⟩
  · exact ⟨⟨_, _, T.ends.c_Latch⟩, T.o_latch_latch⟩
  · exact ⟨⟨_, _, T.ends.c_Unlatch⟩, T.o_unlatch_latch⟩
  · exact ⟨⟨_, _, T.ends.c_Timer⟩, T.o_timer_latch⟩
  · exact ⟨⟨_, _, T.ends.c_Counter⟩, T.o_counter_latch⟩
theorem TEnK.is_Unlatch (T : TEnK K mg ce) : Ru.IsT K ce.unlatch (fun C b => ∃ k : Ek, C = ce.at k ∧ b = decide (k = .unlatch)) := by
  rintro C b ⟨k, rfl, rfl⟩
  cases k
  · exact ⟨⟨_, _, T.ends.c_Coil⟩, T.o_coil_unlatch⟩
  · exact ⟨⟨_, _, T.ends.c_Latch⟩, T.o_latch_unlatch⟩
  · exact ⟨⟨_, _, T.ends.c_Unlatch⟩, T.o_unlatch_unlatch⟩
  · exact ⟨⟨_, _, T.ends.c_Timer⟩, T.o_timer_unlatch⟩
  · exact ⟨⟨_, _, T.ends.c_Counter⟩, T.o_counter_unlatch⟩
theorem TEnK.is_Timer (T : TEnK K mg ce) : Ru.IsT K ce.timer (fun C b => ∃ k : Ek, C = ce.at k ∧ b = decide (k = .timer)) := by
  rintro C b ⟨k, rfl, rfl⟩
  cases k
  · exact ⟨⟨_, _, T.ends.c_Coil⟩, T.o_coil_timer⟩
  · exact ⟨⟨_, _, T.ends.c_Latch⟩, T.o_latch_timer⟩
  · exact ⟨⟨_, _, T.ends.c_Unlatch⟩, T.o_unlatch_timer⟩
  · exact ⟨⟨_, _, T.ends.c_Timer⟩, T.o_timer_timer⟩
  · exact ⟨⟨_, _, T.ends.c_Counter⟩, T.o_counter_timer⟩
theorem TEnK.is_Counter (T : TEnK K mg ce) : Ru.IsT K ce.counter (fun C b => ∃ k : Ek, C = ce.at k ∧ b = decide (k = .counter)) := by
  rintro C b ⟨k, rfl, rfl⟩
  cases k
  · exact ⟨⟨_, _, T.ends.c_Coil⟩, T.o_coil_counter⟩
  · exact ⟨⟨_, _, T.ends.c_Latch⟩, T.o_latch_counter⟩
  · exact ⟨⟨_, _, T.ends.c_Unlatch⟩, T.o_unlatch_counter⟩
  · exact ⟨⟨_, _, T.ends.c_Timer⟩, T.o_timer_counter⟩
  · exact ⟨⟨_, _, T.ends.c_Counter⟩, T.o_counter_counter⟩
theorem TEnK.is_End (T : TEnK K mg ce) : Ru.IsT K ce.en (fun C b => (∃ k : Ek, C = ce.at k) ∧ b = true) := by
  rintro C b ⟨⟨k, rfl⟩, rfl⟩
  cases k
  · exact ⟨⟨_, _, T.ends.c_Coil⟩, T.o_coil_en⟩
  · exact ⟨⟨_, _, T.ends.c_Latch⟩, T.o_latch_en⟩
  · exact ⟨⟨_, _, T.ends.c_Unlatch⟩, T.o_unlatch_en⟩
  · exact ⟨⟨_, _, T.ends.c_Timer⟩, T.o_timer_en⟩
  · exact ⟨⟨_, _, T.ends.c_Counter⟩, T.o_counter_en⟩
theorem TEnK.c_Coil (T : TEnK K mg ce) : ClsAt K mg "Coil" ce.coil := T.ends.c_Coil
theorem TEnK.c_Latch (T : TEnK K mg ce) : ClsAt K mg "Latch" ce.latch := T.ends.c_Latch
theorem TEnK.c_Unlatch (T : TEnK K mg ce) : ClsAt K mg "Unlatch" ce.unlatch := T.ends.c_Unlatch
theorem TEnK.c_Timer (T : TEnK K mg ce) : ClsAt K mg "Timer" ce.timer := T.ends.c_Timer
theorem TEnK.c_Counter (T : TEnK K mg ce) : ClsAt K mg "Counter" ce.counter := T.ends.c_Counter
theorem TEnK.c_End (T : TEnK K mg ce) : ClsAt K mg "End" ce.en := T.ends.c_End
theorem TEnK.z_isinstance (T : TEnK K mg ce) : mg "isinstance" = none := T.ends.z_isinstance
end
def Ek.ix : Ek → Int
  | .coil => 0
  | .latch => 1
  | .unlatch => 2
  | .timer => 3
  | .counter => 4
theorem Ek.of_ix {i : Int} (h0 : 0 ≤ i) (h1 : i < 5) : ∃ k : Ek, k.ix = i := by
  rcases (by omega : i = 0 ∨ i = 1 ∨ i = 2 ∨ i = 3 ∨ i = 4) with rfl | rfl | rfl | rfl | rfl
  · exact ⟨.coil, rfl⟩
  · exact ⟨.latch, rfl⟩
  · exact ⟨.unlatch, rfl⟩
  · exact ⟨.timer, rfl⟩
  · exact ⟨.counter, rfl⟩
theorem app_assoc (a b c : Str) : a ++ b ++ c = a ++ (b ++ c) := by
  show Str.append (Str.append a b) c = Str.append a (Str.append b c)
  simp [Str.append, Array.append_assoc]
theorem app_empty (a : Str) : a ++ ("" : Str) = a := by
  have e : ("" : Str) = ⟨#[]⟩ := by decide +kernel
  rw [e]
  show Str.append a ⟨#[]⟩ = a
  simp [Str.append]

/-! ## ladders: the plain side -/
structure Rg where
  c : Cond
  e : EndC
structure Lad where
  ins : List Str
  outs : List Str
  rs : List Rg
/-- a name more, where it is not yet there -/
def addW (l : List Str) (n : Str) : List Str := if n ∈ l then l else l ++ [n]
/-- the names that rungs write, each once -/
def writ (rs : List Rg) : List Str := rs.foldl (fun l r => addW l r.e.n) []
/-- what stands at a name in need_own -/
def bears (n : Str) (rs : List Rg) : List Bool := (rs.filter fun r => decide (r.e.n = n) && !decide (r.e.k = .unlatch)).map fun r => r.e.k.counts
def crowd (rs : List Rg) : Bool := rs.any fun r => decide (1 < (bears r.e.n rs).length) && (bears r.e.n rs).any id
def Lad.named (l : Lad) : Bool := (l.ins ++ l.outs).all isName
def Lad.fair (l : Lad) : Bool := decide (l.ins.length ≤ 6) && decide l.ins.Nodup && decide (1 ≤ l.outs.length ∧ l.outs.length ≤ 6) && decide l.outs.Nodup && decide (1 ≤ l.rs.length ∧ l.rs.length ≤ 30) &&
  l.ins.all (fun n => !decide (n ∈ writ l.rs)) && l.outs.all (fun n => decide (n ∈ writ l.rs)) && !crowd l.rs && decide ((writ l.rs).length ≤ 20)
theorem addW_mem {l : List Str} {n x : Str} : x ∈ addW l n ↔ x ∈ l ∨ x = n := by
  unfold addW
  split
  · constructor
    · exact .inl
    · rintro (h | rfl)
      · exact h
      · assumption
  · simp
theorem addW_nodup {l : List Str} {n : Str} (h : l.Nodup) : (addW l n).Nodup := by
  unfold addW
  split
  · exact h
  · rw [List.nodup_append]
    refine ⟨h, by simp, fun a ha b hb e => ?_⟩
    rw [List.mem_singleton.mp hb] at e
    subst e
    contradiction
theorem addW_len (l : List Str) (n : Str) : (addW l n).length ≤ l.length + 1 := by
  unfold addW
  split <;> simp
theorem writ_snoc (rs : List Rg) (r : Rg) : writ (rs ++ [r]) = addW (writ rs) r.e.n := by
  unfold writ
  rw [List.foldl_append]
  rfl
theorem writ_ind {p : List Rg → Prop} (h0 : p []) (hs : ∀ rs r, p rs → p (rs ++ [r])) : ∀ rs, p rs := by
  have h : ∀ n (rs : List Rg), rs.length = n → p rs := by
    intro n
    induction n with
    | zero =>
      intro rs h
      rw [List.length_eq_zero_iff.mp h]
      exact h0
    | succ n ih =>
      intro rs h
      have hne : rs ≠ [] := by intro e; rw [e] at h; simp at h
      rw [← List.dropLast_concat_getLast hne]
      exact hs _ _ (ih _ (by rw [List.length_dropLast, h]; rfl))
  exact fun rs => h _ rs rfl
theorem writ_mem {x : Str} (rs : List Rg) : x ∈ writ rs ↔ ∃ r ∈ rs, r.e.n = x := by
  refine writ_ind (p := fun rs => x ∈ writ rs ↔ ∃ r ∈ rs, r.e.n = x) (by simp [writ]) (fun rs r ih => ?_) rs
  rw [writ_snoc, addW_mem, ih]
  constructor
  · rintro (⟨q, hq, e⟩ | rfl)
    · exact ⟨q, List.mem_append_left _ hq, e⟩
    · exact ⟨r, by simp, rfl⟩
  · rintro ⟨q, hq, e⟩
    rcases List.mem_append.mp hq with hq | hq
    · exact .inl ⟨q, hq, e⟩
    · rw [List.mem_singleton.mp hq] at e
      exact .inr e.symm
theorem writ_nodup (rs : List Rg) : (writ rs).Nodup := writ_ind (p := fun rs => (writ rs).Nodup) (by simp [writ]) (fun rs r ih => by rw [writ_snoc]; exact addW_nodup ih) rs
theorem writ_len (rs : List Rg) : (writ rs).length ≤ rs.length := writ_ind (p := fun rs => (writ rs).length ≤ rs.length) (by simp [writ]) (fun rs r ih => by
  rw [writ_snoc, List.length_append]
  have := addW_len (writ rs) r.e.n
  simp
  omega) rs
theorem writ_pos {rs : List Rg} (h : rs ≠ []) : 1 ≤ (writ rs).length := by
  obtain ⟨r, l, rfl⟩ := List.exists_cons_of_ne_nil h
  have : r.e.n ∈ writ (r :: l) := (writ_mem _).mpr ⟨r, by simp, rfl⟩
  exact List.length_pos_of_mem this
def nmW (l : List Str) : List (Key × V) := l.map fun n => (.inr n, .bl true)
theorem nmW_any (n : Str) : ∀ l : List Str, ((nmW l).any fun kv => decide (kv.1 = (Sum.inr n : Key))) = decide (n ∈ l)
  | [] => by simp [nmW]
  | x :: l => by
    have ih := nmW_any n l
    unfold nmW at ih ⊢
    rw [List.map_cons, List.any_cons, ih, Bool.eq_iff_iff]
    simp only [Bool.or_eq_true, decide_eq_true_eq, List.mem_cons]
    constructor
    · rintro (h | h)
      · injection h with h
        exact .inl h.symm
      · exact .inr h
    · rintro (rfl | h)
      · exact .inl rfl
      · exact .inr h
theorem nmW_put (l : List Str) (n : Str) : putK (nmW l) (Sum.inr n : Key) (.bl true) = nmW (addW l n) := by
  unfold putK addW
  rw [nmW_any]
  by_cases h : n ∈ l
  · rw [decide_eq_true h, if_pos rfl, if_pos h]
    unfold nmW
    rw [List.map_map]
    apply List.map_congr_left
    intro x _
    simp only [Function.comp]
    split <;> rfl
  · rw [decide_eq_false h, if_neg (by decide), if_neg h]
    simp [nmW]
theorem bears_snoc (n : Str) (rs : List Rg) (r : Rg) : bears n (rs ++ [r]) = if (decide (r.e.n = n) && !decide (r.e.k = .unlatch)) = true then bears n rs ++ [r.e.k.counts] else bears n rs := by
  unfold bears
  rw [List.filter_append, List.map_append]
  simp only [List.filter_cons, List.filter_nil]
  split <;> simp
/-! ## ladders: the objects -/
structure Cs where
  cl : Cl
  ce : Ce
  rg : Addr
  ld : Addr
def Cs.has (cs : Cs) (C : Addr) : Prop := cs.cl.has C ∨ cs.ce.has C ∨ C = cs.rg ∨ C = cs.ld
def IsR (cs : Cs) (H : Hp) (v : V) (r : Rg) : Prop := ∃ a dx p q, v = .ref a ∧ H a = some (.ins cs.rg dx [("part", p), ("end", q)]) ∧ IsP cs.cl H p r.c ∧ IsE cs.ce H q r.e
def IsL (K : PySem.W.Frag) (cs : Cs) (H : Hp) (v : V) (l : Lad) : Prop := ∃ a dx ti tt tr ws, v = .ref a ∧ H a = some (.ins cs.ld dx [("inputs", .ref ti), ("outputs", .ref tt), ("rungs", .ref tr)]) ∧ Tp K H ti (l.ins.map V.str) ∧ Tp K H tt (l.outs.map V.str) ∧ Tp K H tr ws ∧ Two (IsR cs H) ws l.rs
theorem IsR.mono {cs : Cs} {H H' : Hp} (k : Imm cs.has H H') {v : V} {r : Rg} (p : IsR cs H v r) : IsR cs H' v r := by
  obtain ⟨a, dx, x, y, e, h, px, py⟩ := p
  exact ⟨a, dx, x, y, e, k _ _ h (.inr (.inr (.inl rfl))), px.mono (k.less fun _ q => .inl q), py.mono (k.less fun _ q => .inr (.inl q))⟩
theorem IsL.mono {K : PySem.W.Frag} {cs : Cs} {H H' : Hp} (k : Imm cs.has H H') {v : V} {l : Lad} (p : IsL K cs H v l) : IsL K cs H' v l := by
  obtain ⟨a, dx, ti, tt, tr, ws, e, h, h1, h2, h3, h4⟩ := p
  exact ⟨a, dx, ti, tt, tr, ws, e, k _ _ h (.inr (.inr (.inr rfl))), h1.mono k, h2.mono k, h3.mono k, h4.mono fun _ _ q => q.mono k⟩

--%% N6
/-! ## ladders: made -/
abbrev s_Rung___init__ : Stmt := inClass (top 48) 0
theorem sc_Rung___init__ : FnScope ["self", "part", "end"] ["self", "part", "end"] (defScope s_Rung___init__) := ⟨rfl, rfl, rfl, by decide +kernel, rfl, by decide +kernel, by decide +kernel⟩
abbrev s_need_between : Stmt := top 49
theorem sc_need_between : FnScope ["things", "least", "most"] ["things", "least", "most"] (defScope s_need_between) := ⟨rfl, rfl, rfl, by decide +kernel, rfl, by decide +kernel, by decide +kernel⟩
abbrev s_need_single : Stmt := top 50
theorem sc_need_single : FnScope ["names"] ["names"] (defScope s_need_single) := ⟨rfl, rfl, rfl, by decide +kernel, rfl, by decide +kernel, by decide +kernel⟩
abbrev s_need_own : Stmt := top 51
theorem sc_need_own : FnScope ["rungs", "bearers", "rung", "name", "counts"] ["rungs"] (defScope s_need_own) := ⟨rfl, rfl, rfl, by decide +kernel, rfl, by decide +kernel, by decide +kernel⟩
abbrev s_Ladder___init__ : Stmt := inClass (top 52) 0
theorem sc_Ladder___init__ : FnScope ["self", "inputs", "outputs", "rungs", "name", "names"] ["self", "inputs", "outputs", "rungs"] (defScope s_Ladder___init__) := ⟨rfl, rfl, rfl, by decide +kernel, rfl, by decide +kernel, by decide +kernel⟩
abbrev s_Ladder_written_names : Stmt := inClass (top 52) 1
theorem sc_Ladder_written_names : FnScope ["self", "found", "rung"] ["self"] (defScope s_Ladder_written_names) := ⟨rfl, rfl, rfl, by decide +kernel, rfl, by decide +kernel, by decide +kernel⟩
structure TLad (K : PySem.W.Frag) (mg : Str → Option Value) (cs : Cs) (cc : Addr) (xc : Xc) : Prop where
  enk : TEnK K mg cs.ce
  exs : TExs K mg xc
  c_Rung : ClsAt K mg "Rung" cs.rg
  c_Ladder : ClsAt K mg "Ladder" cs.ld
  c_Counting : ClsAt K mg "Counting" cc
  q_coil : PySem.W.kitOne K (.ref cs.ce.coil) (.ref cc) = some false
  q_latch : PySem.W.kitOne K (.ref cs.ce.latch) (.ref cc) = some false
  q_unlatch : PySem.W.kitOne K (.ref cs.ce.unlatch) (.ref cc) = some false
  q_timer : PySem.W.kitOne K (.ref cs.ce.timer) (.ref cc) = some true
  q_counter : PySem.W.kitOne K (.ref cs.ce.counter) (.ref cc) = some true
  np_rg : NoAttr K cs.rg "part"
  ne_rg : NoAttr K cs.rg "end"
  ni_ld : NoAttr K cs.ld "inputs"
  no_ld : NoAttr K cs.ld "outputs"
  nr_ld : NoAttr K cs.ld "rungs"
  d_between : DefAt K mg "need_between" s_need_between ["things", "least", "most"]
  d_single : DefAt K mg "need_single" s_need_single ["names"]
  d_own : DefAt K mg "need_own" s_need_own ["rungs"]
  i_rg : MethAt K cs.rg "__init__" "Rung.__init__" s_Rung___init__ ["self", "part", "end"]
  i_ld : MethAt K cs.ld "__init__" "Ladder.__init__" s_Ladder___init__ ["self", "inputs", "outputs", "rungs"]
  m_written : MethAt K cs.ld "written_names" "Ladder.written_names" s_Ladder_written_names ["self"]
  z_len : mg "len" = none
  z_set : mg "set" = none
  z_tuple : mg "tuple" = none
  z_any : mg "any" = none
  z_isinstance : mg "isinstance" = none
  g_MOST_NAMES : GlobC mg "MOST_NAMES" (.int 6)
  g_MOST_RUNGS : GlobC mg "MOST_RUNGS" (.int 30)
  g_MOST_WRITTEN : GlobC mg "MOST_WRITTEN" (.int 20)
section
variable {P : Program} {w : World} {K : PySem.W.Frag} {mg : Str → Option Value} {base : Heap} {cs : Cs} {cc : Addr} {xc : Xc}
theorem TLad.is_Counting (T : TLad K mg cs cc xc) : Ru.IsT K cc (fun C b => ∃ k : Ek, C = cs.ce.at k ∧ b = k.counts) := by
  rintro C b ⟨k, rfl, rfl⟩
  cases k
  · exact ⟨⟨_, _, T.enk.ends.c_Coil⟩, T.q_coil⟩
  · exact ⟨⟨_, _, T.enk.ends.c_Latch⟩, T.q_latch⟩
  · exact ⟨⟨_, _, T.enk.ends.c_Unlatch⟩, T.q_unlatch⟩
  · exact ⟨⟨_, _, T.enk.ends.c_Timer⟩, T.q_timer⟩
  · exact ⟨⟨_, _, T.enk.ends.c_Counter⟩, T.q_counter⟩
theorem TLad.is_Unlatch (T : TLad K mg cs cc xc) : Ru.IsT K cs.ce.unlatch (fun C b => ∃ k : Ek, C = cs.ce.at k ∧ b = decide (k = .unlatch)) := T.enk.is_Unlatch
theorem TLad.c_Unlatch (T : TLad K mg cs cc xc) : ClsAt K mg "Unlatch" cs.ce.unlatch := T.enk.c_Unlatch
theorem lkR1 {x y : V} : List.lookup ("part" : Str) [(("part" : Str), x), (("end" : Str), y)] = some x := by simp [List.lookup]
theorem lkR2 {x y : V} : List.lookup ("end" : Str) [(("part" : Str), x), (("end" : Str), y)] = some y := by
  have e : (("end" : Str) == ("part" : Str)) = false := by decide +kernel
  simp [List.lookup, e]
theorem lkL1 {x y z : V} : List.lookup ("inputs" : Str) [(("inputs" : Str), x), (("outputs" : Str), y), (("rungs" : Str), z)] = some x := by simp [List.lookup]
theorem lkL2 {x y z : V} : List.lookup ("outputs" : Str) [(("inputs" : Str), x), (("outputs" : Str), y), (("rungs" : Str), z)] = some y := by
  have e : (("outputs" : Str) == ("inputs" : Str)) = false := by decide +kernel
  simp [List.lookup, e]
theorem lkL3 {x y z : V} : List.lookup ("rungs" : Str) [(("inputs" : Str), x), (("outputs" : Str), y), (("rungs" : Str), z)] = some z := by
  have e : (("rungs" : Str) == ("inputs" : Str)) = false := by decide +kernel
  have e2 : (("rungs" : Str) == ("outputs" : Str)) = false := by decide +kernel
  simp [List.lookup, e, e2]
theorem lkLw {x y z : V} : List.lookup ("written_names" : Str) [(("inputs" : Str), x), (("outputs" : Str), y), (("rungs" : Str), z)] = none := by
  have e : (("written_names" : Str) == ("inputs" : Str)) = false := by decide +kernel
  have e2 : (("written_names" : Str) == ("outputs" : Str)) = false := by decide +kernel
  have e3 : (("written_names" : Str) == ("rungs" : Str)) = false := by decide +kernel
  simp [List.lookup, e, e2, e3]
theorem all_flatS : ∀ l : List Str, (l.map V.str).all flatV = true
  | [] => rfl
  | _ :: l => all_flatS l
theorem Same.imm0 {H H' : Hp} (s : Same H H') : Imm (fun _ => False) H H' := Same.imm s
def spInitRg (cs : Cs) : Sp := fun vs H Q _ => ∃ (x dx : Addr) (p q : V), vs = [.ref x, p, q] ∧ H x = some (.ins cs.rg dx []) ∧ ∀ H' : Hp, H' x = some (.ins cs.rg dx [("part", p), ("end", q)]) → But x H H' → Q .non H'
theorem ok_init_rg (T : TLad K mg cs cc xc) : MakAt P w K mg base CX0 "Rung" cs.rg 1 ["self", "part", "end"] (spInitRg cs) := by
  refine makAt_of T.c_Rung (methAt_ok T.c_Rung.cl T.i_rg sc_Rung___init__ (fun vs H Q E h => ?_) (fun f cdv A outer s H vs Q E hr h => ?_))
  · obtain ⟨x, dx, p, q, rfl, _⟩ := h; rfl
  · obtain ⟨x, dx, p, q, rfl, hx, k⟩ := h
    refine ⟨_, (pss_cons (ps_fld (pv 0) (pv 1) rfl)
        (pss_one (ps_fld (pv 0) (pv 2) rfl))), ?_⟩
    refine ⟨_, rfl, _, rfl, x, _, dx, [], rfl, hx, T.c_Rung.cl, T.np_rg, (by show 0 < 1000; decide), ?_⟩
    refine ⟨_, rfl, _, rfl, x, _, dx, _, rfl, upd_same, T.c_Rung.cl, T.ne_rg, (by show 1 < 1000; decide), ?_⟩
    exact k _ upd_same (But.upd.trans But.upd)
def spBetween (K : PySem.W.Frag) (xc : Xc) : Sp := fun vs H Q E => ∃ (t : Addr) (ws : List V) (a b : Int), vs = [.ref t, .int a, .int b] ∧ SqT K H t ws ∧ (a ≤ ws.length ∧ (ws.length : Int) ≤ b → Q .non H) ∧ (¬ (a ≤ ws.length ∧ (ws.length : Int) ≤ b) → E (.ref xc.ladder) none H)
theorem ok_between (T : TLad K mg cs cc xc) : FnAt P w K mg base (L2.CX P w) "need_between" 1 ["things", "least", "most"] (spBetween K xc) := by
  have e_NoLadder := T.exs.e_ladder
  refine fnAt_okX T.d_between sc_need_between (fun vs H Q E h => ?_) (fun f cdv A outer s H vs Q E hr h => ?_)
  · obtain ⟨t, ws, a, b, rfl, _⟩ := h; rfl
  · obtain ⟨t, ws, a, b, rfl, ht, q, qx⟩ := h
    refine ⟨_, (pss_one (ps_if (pt_not (pt_chain op_le op_le (pv 1) (pe_callB call_len_seq (by rfl) T.z_len PySem.boot_len (pa_cons (pv 0) pa_nil)) (pv 2))) (pss_one (ps_raiseO rfl e_NoLadder (L2.takes_of rfl rfl rfl rfl))) pss_nil)), ?_⟩
    unfold tChain
    walk_at "rd"
    refine ⟨ws, .inr ht, ?_⟩
    by_cases h1 : a ≤ ws.length
    · rw [decide_eq_true h1]
      by_cases h2 : (ws.length : Int) ≤ b
      · rw [decide_eq_true h2]
        exact iteT (iteF (q ⟨h1, h2⟩))
      · rw [decide_eq_false h2]
        exact iteT (iteT (qx fun z => h2 z.2))
    · rw [decide_eq_false h1]
      exact iteF (qx fun z => h1 z.1)
def spSingleN (K : PySem.W.Frag) (xc : Xc) : Sp := fun vs H Q E => ∃ (t : Addr) (xs : List Str), vs = [.ref t] ∧ SqT K H t (xs.map V.str) ∧ xs.length ≤ 1000 ∧ (xs.Nodup → Q .non H) ∧ (¬ xs.Nodup → E (.ref xc.ladder) none H)
theorem ok_single1 (T : TLad K mg cs cc xc) : FnAt P w K mg base (L2.CX P w) "need_single" 1 ["names"] (spSingleN K xc) := by
  have e_NoLadder := T.exs.e_ladder
  refine fnAt_okX T.d_single sc_need_single (fun vs H Q E h => ?_) (fun f cdv A outer s H vs Q E hr h => ?_)
  · obtain ⟨t, xs, rfl, _⟩ := h; rfl
  · obtain ⟨t, xs, rfl, ht, hl, q, qx⟩ := h
    refine ⟨_, (pss_one (ps_if (pt_cmpR op_ne (pe_lenSetS rfl (by rfl) T.z_len (by rfl) T.z_set (pv 0)) (pe_callB call_len_seq (by rfl) T.z_len PySem.boot_len (pa_cons (pv 0) pa_nil)) (nomark _)) (pss_one (ps_raiseO rfl e_NoLadder (L2.takes_of rfl rfl rfl rfl))) pss_nil)), ?_⟩
    walk_at "rd"
    refine ⟨_, rfl, t, xs, rfl, .inr ht, hl, fun n hn hx => ⟨_, .inr ht, scal_ii, ?_⟩⟩
    rw [List.length_map]
    by_cases hd : xs.Nodup
    · rw [decide_eq_true (by rw [hx.mpr hd])]
      exact iteF (q hd)
    · rw [decide_eq_false (fun e => hd (hx.mp (by injection e with e; omega)))]
      exact iteT (qx hd)
def spWrit (K : PySem.W.Frag) (cs : Cs) : Sp := fun vs H Q _ => ∃ (v : V) (l : Lad), vs = [v] ∧ IsL K cs H v l ∧ l.rs.length ≤ 1000 ∧ ∀ (H' : Hp) (p : Addr), Same H H' → H' p = some (.tup ((writ l.rs).map V.str)) → Q (.ref p) H'
theorem disp_written (T : TLad K mg cs cc xc) : DispAt P w K mg base CX0 (fun C => C = cs.ld) "written_names" 1 ["self"] (fun _ => spWrit K cs) := by
  refine ⟨fun C hC => ?_⟩
  subst hC
  refine methAt_ok T.c_Ladder.cl T.m_written sc_Ladder_written_names (fun vs H Q E h => ?_) (fun f cdv A outer s H vs Q E hr h => ?_)
  · obtain ⟨v, l, rfl, _⟩ := h; rfl
  · obtain ⟨v, l, rfl, p, hl, k⟩ := h
    have hu := hu_of hr
    obtain ⟨a, dx, ti, tt, tr, ws, rfl, ha, h1, h2, h3, h4⟩ := p
    have hlen := h4.length
    refine ⟨_, (pss_cons (ps_set (i := 1) sc_Ladder_written_names.nd rfl (by first | exact Or.inl rfl | exact Or.inr rfl) pe_dnewK)
        (pss_cons (ps_for PassesOwn.never rfl (pi_tup (pe_fld (pv 0) rfl)) (pg_name (i := 2) sc_Ladder_written_names.nd rfl (by first | exact Or.inl rfl | exact Or.inr rfl)) (pss_one (ps_dput hu (pv 1) (pe_fld (pe_fld (pv 2) rfl) rfl) pe_bl rfl)))
        (pss_one (ps_ret (pe_tupKeys T.z_tuple (pv 1)))))), ?_⟩
    walk_at "rd"
    refine fun d nd => ⟨_, rfl, a, _, dx, _, _, rfl, Same.new nd _ _ ha, T.c_Ladder.cl, T.nr_ld, lkL3, tr, rfl, ⟨_, (h3.mono (Same.imm0 (Same.new nd))).seq⟩,
      for_tup (K := K) (a := tr) (xs := ws) (fun i σ H' => ∃ v2 : Option V, σ = [some (.ref a), some (.ref d), v2] ∧ Same H H' ∧ H' d = some (.dK (nmW (writ (l.rs.take i))))) ⟨none, rfl, Same.new nd, upd_same⟩ (fun i σ H' _ ⟨_, _, s, _⟩ => (h3.mono (Same.imm0 s)).seq) ?_ ?_⟩
    · rintro i x σ H' hx ⟨v2, rfl, s1, hd⟩
      obtain ⟨r, hr', x', dx', p', q', rfl, hx', _, hq'⟩ := h4.at hx
      obtain ⟨e, dx2, rfl, he⟩ := hq'
      have hi := List.getElem?_eq_some_iff.mp hr'
      have hw := writ_len (l.rs.take i)
      rw [List.length_take] at hw
      refine ⟨_, rfl, _, rfl, x', _, dx', _, _, rfl, s1 _ _ hx', T.c_Rung.cl, T.ne_rg, lkR2, e, _, dx2, _, _, rfl, s1 _ _ he, T.enk.ends.cls _, T.enk.ends.nn _, E_name _, d, _, rfl, DPut.k (k := .inr r.e.n) hd ?_, _, rfl, Same.mut s1 nd, ?_⟩
      · rw [nmW, List.length_map, sizeLine_eq]
        omega
      · rw [upd_same, nmW_put, List.take_succ, hr']
        show _ = some (HO.dK (nmW (writ (_ ++ [r]))))
        rw [writ_snoc]
    · rintro σ H' ⟨v2, rfl, s1, hd⟩
      rw [hlen, List.take_length] at hd
      refine ⟨_, rfl, d, _, rfl, hd, fun q nq => k _ q (s1.trans (Same.new nq)) ?_⟩
      rw [upd_same, nmW, List.map_map]
      rfl
/-! ### need_own: what ends bear a name -/
def bk (ls : List (Str × Addr)) : List (Key × V) := ls.map fun p => (.inr p.1, .ref p.2)
theorem bk_some {n : Str} {v : V} : ∀ {ls : List (Str × Addr)}, valV (bk ls) (Sum.inr n : Key) = some v → ∃ a, (n, a) ∈ ls ∧ v = .ref a
  | [], h => by cases h
  | (x, a) :: ls, h => by
    by_cases e : x = n
    · subst e
      have h2 : valV (bk ((x, a) :: ls)) (Sum.inr x : Key) = some (.ref a) := valV_pos rfl
      rw [h2] at h
      cases h
      exact ⟨a, List.mem_cons_self, rfl⟩
    · have h2 : valV (bk ((x, a) :: ls)) (Sum.inr n : Key) = valV (bk ls) (Sum.inr n : Key) := valV_neg fun q => e (by injection q)
      rw [h2] at h
      obtain ⟨b, hb, ev⟩ := bk_some h
      exact ⟨b, List.mem_cons_of_mem _ hb, ev⟩
theorem bk_none {n : Str} : ∀ {ls : List (Str × Addr)}, valV (bk ls) (Sum.inr n : Key) = none → n ∉ ls.map (·.1)
  | [], _ => by simp
  | (x, a) :: ls, h => by
    by_cases e : x = n
    · subst e
      have h2 : valV (bk ((x, a) :: ls)) (Sum.inr x : Key) = some (.ref a) := valV_pos rfl
      rw [h2] at h
      cases h
    · have h2 : valV (bk ((x, a) :: ls)) (Sum.inr n : Key) = valV (bk ls) (Sum.inr n : Key) := valV_neg fun q => e (by injection q)
      rw [h2] at h
      have := bk_none h
      simp only [List.map_cons, List.mem_cons, not_or]
      exact ⟨fun q => e q.symm, this⟩
structure Bear (H0 H : Hp) (d : Addr) (rs : List Rg) (ls : List (Str × Addr)) : Prop where
  dict : H d = some (.dK (bk ls))
  nd : (ls.map (·.1)).Nodup
  nda : (ls.map (·.2)).Nodup
  at_ : ∀ p ∈ ls, H p.2 = some (.lst ((bears p.1 rs).map V.bl)) ∧ H0 p.2 = none ∧ p.2 ≠ d
  all_ : ∀ r ∈ rs, r.e.k ≠ .unlatch → r.e.n ∈ ls.map (·.1)
  len : ls.length ≤ rs.length
theorem bears_nil {n : Str} {rs : List Rg} (h : ∀ r ∈ rs, r.e.k ≠ .unlatch → r.e.n ≠ n) : bears n rs = [] := by
  unfold bears
  rw [List.filter_eq_nil_iff.mpr]
  · rfl
  · intro r hr q
    simp only [Bool.and_eq_true, decide_eq_true_eq, Bool.not_eq_true', decide_eq_false_iff_not] at q
    exact h r hr q.2 q.1
theorem bears_len (n : Str) (rs : List Rg) : (bears n rs).length ≤ rs.length := by
  unfold bears
  rw [List.length_map]
  exact List.length_filter_le _ _
theorem nodup_key {α β : Type} {f : α → β} : ∀ {l : List α} {a b : α}, (l.map f).Nodup → a ∈ l → b ∈ l → f a = f b → a = b
  | x :: l, a, b, h, ha, hb, e => by
    rw [List.map_cons, List.nodup_cons] at h
    rcases List.mem_cons.mp ha with ea | ha2
    · rcases List.mem_cons.mp hb with eb | hb2
      · rw [ea, eb]
      · exact absurd (List.mem_map.mpr ⟨b, hb2, by rw [← e, ea]⟩) h.1
    · rcases List.mem_cons.mp hb with eb | hb2
      · exact absurd (List.mem_map.mpr ⟨a, ha2, by rw [e, eb]⟩) h.1
      · exact nodup_key h.2 ha2 hb2 e
/-- an unlatch bears nothing -/
theorem Bear.pass {H0 H : Hp} {d : Addr} {rs : List Rg} {ls : List (Str × Addr)} {r : Rg} (b : Bear H0 H d rs ls) (h : r.e.k = .unlatch) : Bear H0 H d (rs ++ [r]) ls := by
  refine ⟨b.dict, b.nd, b.nda, fun p hp => ?_, fun q hq hk => ?_, by rw [List.length_append]; have := b.len; omega⟩
  · rw [bears_snoc, if_neg (by rw [decide_eq_true h]; simp)]
    exact b.at_ p hp
  · rcases List.mem_append.mp hq with hq | hq
    · exact b.all_ q hq hk
    · rw [List.mem_singleton.mp hq] at hk
      exact absurd h hk
/-- one more at a name that stands there -/
theorem Bear.more {H0 H H1 : Hp} {d a : Addr} {rs : List Rg} {ls : List (Str × Addr)} {r : Rg} (b : Bear H0 H d rs ls) (s : Same H H1) (h : r.e.k ≠ .unlatch) (ha : (r.e.n, a) ∈ ls) :
    H1 a = some (.lst ((bears r.e.n rs).map V.bl)) ∧ Bear H0 (upd H1 a (.lst ((bears r.e.n rs).map V.bl ++ [.bl r.e.k.counts]))) d (rs ++ [r]) ls := by
  obtain ⟨h1, h2, h3⟩ := b.at_ _ ha
  refine ⟨s _ _ h1, ⟨by rw [upd_ne h3.symm]; exact s _ _ b.dict, b.nd, b.nda, fun p hp => ?_, fun q hq hk => ?_, by rw [List.length_append]; have := b.len; omega⟩⟩
  · obtain ⟨g1, g2, g3⟩ := b.at_ p hp
    refine ⟨?_, g2, g3⟩
    by_cases e : p.1 = r.e.n
    · have ep : p = (r.e.n, a) := nodup_key b.nd hp ha e
      subst ep
      rw [upd_same, bears_snoc, if_pos (by rw [decide_eq_true rfl, decide_eq_false h]; rfl), List.map_append]
      rfl
    · have ne : p.2 ≠ a := fun q => e (by rw [nodup_key (f := Prod.snd) b.nda hp ha q])
      rw [upd_ne ne, bears_snoc, if_neg (by rw [decide_eq_false fun q => e q.symm]; simp)]
      exact s _ _ g1
  · rcases List.mem_append.mp hq with hq | hq
    · exact b.all_ q hq hk
    · rw [List.mem_singleton.mp hq]
      exact List.mem_map.mpr ⟨_, ha, rfl⟩
/-- a new name -/
theorem Bear.new {H0 H : Hp} {d z : Addr} {rs : List Rg} {ls : List (Str × Addr)} {r : Rg} (b : Bear H0 H d rs ls) (s0 : Same H0 H) (h : r.e.k ≠ .unlatch) (hn : r.e.n ∉ ls.map (·.1)) (nz : H z = none) {Hd : Hp} (hd : ∀ c, c ≠ d → Hd c = upd H z (.lst []) c) (hdd : Hd d = some (.dK (bk (ls ++ [(r.e.n, z)])))) :
    Bear H0 (upd Hd z (.lst ([] ++ [.bl r.e.k.counts]))) d (rs ++ [r]) (ls ++ [(r.e.n, z)]) := by
  have zd : z ≠ d := fun e => by rw [e, b.dict] at nz; cases nz
  have nl : ∀ p ∈ ls, p.2 ≠ z := fun p hp e => by
    have := (b.at_ p hp).1
    rw [e, nz] at this
    cases this
  refine ⟨by rw [upd_ne zd.symm]; exact hdd, ?_, ?_, fun p hp => ?_, fun q hq hk => ?_, by rw [List.length_append, List.length_append]; have := b.len; simp; omega⟩
  · rw [List.map_append, List.nodup_append]
    refine ⟨b.nd, by simp, fun x hx y hy e => ?_⟩
    simp at hy
    rw [hy] at e
    exact hn (e ▸ hx)
  · rw [List.map_append, List.nodup_append]
    refine ⟨b.nda, by simp, fun x hx y hy e => ?_⟩
    simp at hy
    rw [hy] at e
    obtain ⟨p, hp, rfl⟩ := List.mem_map.mp hx
    exact nl p hp e
  · rcases List.mem_append.mp hp with hp | hp
    · obtain ⟨g1, g2, g3⟩ := b.at_ p hp
      have e : ¬ r.e.n = p.1 := fun q => hn (q ▸ List.mem_map.mpr ⟨p, hp, rfl⟩)
      refine ⟨?_, g2, g3⟩
      rw [upd_ne (nl p hp), hd _ g3, upd_ne (nl p hp), bears_snoc, if_neg (by rw [decide_eq_false e]; simp)]
      exact g1
    · rw [List.mem_singleton.mp hp]
      refine ⟨?_, s0.free nz, zd⟩
      have e : bears r.e.n rs = [] := bears_nil fun q hq hk e => hn (e ▸ b.all_ q hq hk)
      show upd Hd z _ z = _
      rw [upd_same]
      show _ = some (HO.lst ((bears r.e.n (rs ++ [r])).map V.bl))
      rw [bears_snoc, if_pos (by rw [decide_eq_true rfl, decide_eq_false h]; rfl), e]
      rfl
  · rcases List.mem_append.mp hq with hq | hq
    · rw [List.map_append]
      exact List.mem_append_left _ (b.all_ q hq hk)
    · rw [List.mem_singleton.mp hq, List.map_append]
      exact List.mem_append_right _ (by simp)
def overs (rs : List Rg) (n : Str) : Bool := decide (1 < (bears n rs).length) && (bears n rs).any id
theorem Bear.crowd_eq {H0 H : Hp} {d : Addr} {rs : List Rg} {ls : List (Str × Addr)} (b : Bear H0 H d rs ls) : crowd rs = (ls.map (·.1)).any (overs rs) := by
  rw [Bool.eq_iff_iff, List.any_eq_true]
  unfold crowd
  rw [List.any_eq_true]
  constructor
  · rintro ⟨r, hr, h⟩
    by_cases hk : ∃ q ∈ rs, q.e.k ≠ .unlatch ∧ q.e.n = r.e.n
    · obtain ⟨q, hq, h1, h2⟩ := hk
      exact ⟨r.e.n, h2 ▸ b.all_ q hq h1, h⟩
    · rw [bears_nil fun q hq h1 h2 => hk ⟨q, hq, h1, h2⟩] at h
      cases h
  · rintro ⟨n, _, h⟩
    by_cases hk : ∃ q ∈ rs, q.e.k ≠ .unlatch ∧ q.e.n = n
    · obtain ⟨q, hq, h1, rfl⟩ := hk
      exact ⟨q, hq, h⟩
    · unfold overs at h
      rw [bears_nil fun q hq h1 h2 => hk ⟨q, hq, h1, h2⟩] at h
      cases h
def spOwn (K : PySem.W.Frag) (cs : Cs) (xc : Xc) : Sp := fun vs H Q E => ∃ (t : Addr) (ws : List V) (rs : List Rg), vs = [.ref t] ∧ Tp K H t ws ∧ Two (IsR cs H) ws rs ∧ rs.length ≤ 1000 ∧ (crowd rs = false → ∀ H', Same H H' → Q .non H') ∧ (crowd rs = true → ∀ H', Same H H' → E (.ref xc.ladder) none H')
theorem ok_own (T : TLad K mg cs cc xc) : FnAt P w K mg base (L2.CX P w) "need_own" 1 ["rungs"] (spOwn K cs xc) := by
  have e_NoLadder := T.exs.e_ladder
  refine fnAt_okX T.d_own sc_need_own (fun vs H Q E h => ?_) (fun f cdv A outer s H vs Q E hr h => ?_)
  · obtain ⟨t, ws, rs, rfl, _⟩ := h; rfl
  · obtain ⟨t, ws, rs, rfl, ht, hw, hl, q, qx⟩ := h
    have hlen := hw.length
    refine ⟨_, (pss_cons (ps_set (i := 1) sc_need_own.nd rfl (by first | exact Or.inl rfl | exact Or.inr rfl) pe_dnewK)
        (pss_cons (ps_for (L2.passes_of rfl) rfl (pi_tup (pv 0)) (pg_name (i := 2) sc_need_own.nd rfl (by first | exact Or.inl rfl | exact Or.inr rfl)) (pss_one (ps_if (pt_not (pt_val (pe_callB (call_isO T.is_Unlatch) (by rfl) T.z_isinstance (by decide +kernel) (pa_cons (pe_fld (pv 2) rfl) (pa_cons (pe_cls T.c_Unlatch) pa_nil))))) (pss_one (ps_expr (pe_bm PySem.F.plainAttrs_list PySem.F.slot_list_append PySem.F.type_list_append mt_append (pe_dsetd (pv 1) (pe_fld (pe_fld (pv 2) rfl) rfl) (pe_lst pa_nil) (by constructor <;> rfl)) (pa_cons (pe_callB (call_isO T.is_Counting) (by rfl) T.z_isinstance (by decide +kernel) (pa_cons (pe_fld (pv 2) rfl) (pa_cons (pe_cls T.c_Counting) pa_nil))) pa_nil)))) pss_nil)))
        (pss_one (ps_lock (ps_for (L2.passes_of rfl) rfl (pi_items (pv 1)) (pg_tup rfl (pgs_cons (pg_name (i := 3) sc_need_own.nd rfl (by first | exact Or.inl rfl | exact Or.inr rfl)) (pgs_cons (pg_name (i := 4) sc_need_own.nd rfl (by first | exact Or.inl rfl | exact Or.inr rfl)) pgs_nil))) (pss_one (ps_if (PW.pt (pw_and (pt_cmpR op_gt (pe_callB call_len_seq (by rfl) T.z_len PySem.boot_len (pa_cons (pv 4) pa_nil)) pe_int (nomark _)) (pw_and1 (pt_val (pe_callB (cr_any rfl) (by rfl) T.z_any (by decide +kernel) (pa_cons (pv 4) pa_nil)))))) (pss_one (ps_raiseO rfl e_NoLadder (L2.takes_of rfl rfl rfl rfl))) pss_nil))))))), ?_⟩
    walk_at "rd"
    refine fun d nd => ⟨_, rfl, t, rfl, ⟨_, (ht.mono (Same.imm0 (Same.new nd))).seq⟩,
      for_tup (K := K) (a := t) (xs := ws) (fun i σ H' => ∃ (v2 : Option V) (ls : List (Str × Addr)), σ = [some (.ref t), some (.ref d), v2, none, none] ∧ Same H H' ∧ Bear H H' d (rs.take i) ls)
        ⟨none, [], rfl, Same.new nd, ⟨upd_same, by simp, by simp, by simp, by simp, by simp⟩⟩ (fun i σ H' _ ⟨_, _, _, s, _⟩ => (ht.mono (Same.imm0 s)).seq) ?_ ?_⟩
    · rintro i x σ H1 hx ⟨v2, ls, rfl, s1, hB⟩
      obtain ⟨r, hr', x', dx', p', q', rfl, hx', _, hq'⟩ := hw.at hx
      obtain ⟨e, dx2, rfl, he⟩ := hq'
      have hi := List.getElem?_eq_some_iff.mp hr'
      have htk : rs.take (i + 1) = rs.take i ++ [r] := by rw [List.take_succ, hr']; rfl
      rw [htk]
      refine ⟨_, rfl, x', _, dx', _, _, rfl, s1 _ _ hx', T.c_Rung.cl, T.ne_rg, lkR2, e, _, dx2, _, _, rfl, s1 _ _ he, ⟨r.e.k, rfl, rfl⟩, _, rfl, ?_⟩
      by_cases hk : r.e.k = .unlatch
      · rw [decide_eq_true hk]
        exact iteF ⟨_, ls, rfl, s1, hB.pass hk⟩
      · rw [decide_eq_false hk]
        refine iteT ?_
        have hll : ls.length < sizeLine := by
          have := hB.len
          rw [List.length_take] at this
          rw [sizeLine_eq]
          omega
        refine ⟨_, rfl, d, rfl, .inl ⟨_, .inl hB.dict⟩, _, rfl, x', _, dx', _, _, rfl, s1 _ _ hx', T.c_Rung.cl, T.ne_rg, lkR2, e, _, dx2, _, _, rfl, s1 _ _ he, T.enk.ends.cls _, T.enk.ends.nn _, E_name _, Nat.zero_le _, fun z nz => ?_⟩
        have sz : Same H1 (upd H1 z (.lst [])) := Same.new nz
        refine ⟨bk ls, .inr r.e.n, sz _ _ hB.dict, rfl, by rw [bk, List.length_map]; exact hll, fun v hv => ?_, fun hn => ?_⟩
        · obtain ⟨a, ha, rfl⟩ := bk_some hv
          obtain ⟨g1, g2⟩ := hB.more sz hk ha
          refine ⟨.inl ⟨rfl, _, SqL.of g1⟩, _, rfl, x', _, dx', _, _, rfl, sz _ _ (s1 _ _ hx'), T.c_Rung.cl, T.ne_rg, lkR2, e, _, dx2, _, _, rfl, sz _ _ (s1 _ _ he), ⟨r.e.k, rfl, rfl⟩, a, _, _, rfl, rfl, g1, ?_, ?_⟩
          · have := bears_len r.e.n (rs.take i)
            rw [List.length_take] at this
            rw [List.length_map, sizeLine_eq]
            omega
          · exact ⟨_, ls, rfl, Same.mut (s1.trans sz) (hB.at_ _ ha).2.1, g2⟩
        · have zd : z ≠ d := fun q => by rw [q, hB.dict] at nz; cases nz
          have hput : putK (bk ls) (Sum.inr r.e.n : Key) (.ref z) = bk (ls ++ [(r.e.n, z)]) := by
            rw [putK_new _ hn, bk, bk, List.map_append]
            rfl
          rw [hput]
          have hB2 := hB.new s1 hk (bk_none hn) nz (Hd := upd (upd H1 z (.lst [])) d (.dK (bk (ls ++ [(r.e.n, z)])))) (fun c hc => upd_ne hc) upd_same
          have sd : Same H (upd (upd H1 z (.lst [])) d (.dK (bk (ls ++ [(r.e.n, z)])))) := Same.mut (s1.trans sz) nd
          have hz : upd (upd H1 z (.lst [])) d (.dK (bk (ls ++ [(r.e.n, z)]))) z = some (.lst []) := by rw [upd_ne zd, upd_same]
          generalize upd (upd H1 z (.lst [])) d (.dK (bk (ls ++ [(r.e.n, z)]))) = H2 at hB2 sd hz ⊢
          refine ⟨.inl ⟨rfl, _, SqL.of hz⟩, _, rfl, x', _, dx', _, _, rfl, sd _ _ hx', T.c_Rung.cl, T.ne_rg, lkR2, e, _, dx2, _, _, rfl, sd _ _ he, ⟨r.e.k, rfl, rfl⟩, z, _, _, rfl, rfl, hz, by show 0 < sizeLine; rw [sizeLine_eq]; decide, ?_⟩
          exact ⟨_, _, rfl, Same.mut sd (s1.free nz), hB2⟩
    · rintro σ H1 ⟨v2, ls, rfl, s1, hB⟩
      rw [hlen, List.take_length] at hB
      refine ⟨d, _, hB.dict, trivial, fun od => ?_⟩
      have sf : Same H (upd H1 d (.frz od (.dK (bk ls)))) := Same.mut s1 nd
      have hkeep : ∀ p ∈ ls, upd H1 d (.frz od (.dK (bk ls))) p.2 = some (.lst ((bears p.1 rs).map V.bl)) := fun p hp => by
        rw [upd_ne (hB.at_ p hp).2.2]
        exact (hB.at_ p hp).1
      have hfd : upd H1 d (.frz od (.dK (bk ls))) d = some (.frz od (.dK (bk ls))) := upd_same
      generalize upd H1 d (.frz od (.dK (bk ls))) = Hf at sf hkeep hfd ⊢
      refine ⟨_, rfl, d, od, bk ls, rfl, hfd, for_it walk_items (fun i σ H' => ∃ v2 v3 v4 : Option V, σ = [some (.ref t), some (.ref d), v2, v3, v4] ∧ Same Hf H' ∧ ∀ p ∈ ls.take i, overs rs p.1 = false) ⟨_, _, _, rfl, Same.refl _, by simp⟩ (fun i σ H' _ ⟨_, _, _, _, s, _⟩ => s _ _ hfd) ?_ ?_⟩
      · rintro i x σ H2 H3 hi ⟨v2, v3, v4, rfl, s2, hA⟩ ⟨T', y, z, rfl, nT, rfl, hy, hz⟩
        rw [bk, List.length_map] at hi
        have hli : ls[i]? = some ls[i] := List.getElem?_eq_getElem hi
        have hmem : ls[i] ∈ ls := List.getElem_mem hi
        have hkv : (bk ls)[i]? = some (Sum.inr (ls[i]).1, .ref (ls[i]).2) := by rw [bk, List.getElem?_map, hli]; rfl
        simp only [hkv, Option.map_some, Option.some.injEq] at hy hz
        subst hy hz
        have sT : Same H2 (upd H2 T' (.tup [kV (Sum.inr (ls[i]).1 : Key), .ref (ls[i]).2])) := Same.new nT
        have hl2 := sT _ _ (s2 _ _ (hkeep _ hmem))
        refine ⟨T', _, rfl, SqT.of upd_same, rfl, ?_⟩
        walk_at "rd"
        have hA2 : overs rs (ls[i]).1 = false → ∀ p ∈ ls.take (i + 1), overs rs p.1 = false := fun h p hp => by
          rw [List.take_succ, hli] at hp
          rcases List.mem_append.mp hp with hp | hp
          · exact hA p hp
          · rw [List.mem_singleton.mp hp]
            exact h
        refine ⟨_, .inl (SqL.of hl2), ?_⟩
        rw [List.length_map]
        by_cases h1 : (1 : Int) < ((bears (ls[i]).1 rs).length : Int)
        · rw [decide_eq_true h1]
          refine iteT ⟨_, _, rfl, SqL.of hl2, _, rfl, ?_⟩
          have hov : overs rs (ls[i]).1 = (bears (ls[i]).1 rs).any id := by
            unfold overs
            rw [decide_eq_true (by omega), Bool.true_and]
          cases hany : (bears (ls[i]).1 rs).any id with
          | true =>
            refine iteT (qx ?_ _ (sf.trans (s2.trans sT)))
            rw [hB.crowd_eq, List.any_eq_true]
            exact ⟨_, List.mem_map.mpr ⟨_, hmem, rfl⟩, by rw [hov, hany]⟩
          | false => exact iteF ⟨_, _, _, ⟨rfl, rfl, rfl⟩, s2.trans sT, hA2 (by rw [hov, hany])⟩
        · rw [decide_eq_false h1]
          refine iteF ⟨_, _, _, ⟨rfl, rfl, rfl⟩, s2.trans sT, hA2 ?_⟩
          unfold overs
          rw [decide_eq_false (by omega), Bool.false_and]
      · rintro σ H2 ⟨v2, v3, v4, rfl, s2, hA⟩
        rw [bk, List.length_map, List.take_length] at hA
        refine ⟨s2 _ _ hfd, q ?_ _ (Same.mut (sf.trans s2) nd)⟩
        rw [hB.crowd_eq, ← Bool.not_eq_true, List.any_eq_true]
        rintro ⟨n, hn, h⟩
        obtain ⟨p, hp, rfl⟩ := List.mem_map.mp hn
        rw [hA p hp] at h
        cases h
def rTupOf (K : PySem.W.Frag) : List V → Hp → VK → Prop := fun xs H Q => ∃ p, xs = [V.ref p] ∧ ∃ x, (SqL K H p x ∧ ∀ (l : Addr), H l = none → Q (V.ref l) (upd H l (HO.tup x))) ∨ SqT K H p x ∧ Q (V.ref p) H
theorem sq2_tuple {K : PySem.W.Frag} {H0 H : Hp} {i : Addr} {xs : List V} {σ : L2.St} {k : Nat} {Q : VK} (hσ : σ[k]? = some (some (.ref i))) (s : Same H0 H) (h : H0 i = some (.lst xs) ∨ Tp K H0 i xs) (q : ∀ (H' : Hp) (t : Addr), Same H H' → Tp K H' t xs → Q (.ref t) H') :
    tCB (rTupOf K) (tCons (tVar k) tNil) σ H Q := by
  refine ⟨_, hσ, ?_⟩
  show rTupOf K [.ref i] H Q
  rcases h with h | h
  · exact ⟨i, rfl, xs, .inl ⟨SqL.of (s _ _ h), fun t nt => q _ t (Same.new nt) (.inl upd_same)⟩⟩
  · exact ⟨i, rfl, xs, .inr ⟨(h.mono (Same.imm0 s)).seq, q H i (Same.refl H) (h.mono (Same.imm0 s))⟩⟩
theorem cat_tp {K : PySem.W.Frag} {H : Hp} {a b : Addr} {xs ys : List V} {R : V → Hp → Prop} (h1 : Tp K H a xs) (h2 : Tp K H b ys) (hl : xs.length + ys.length ≤ 1000000) (k : ∀ (H' : Hp) (p : Addr), Same H H' → Tp K H' p (xs ++ ys) → R (.ref p) H') : rCatA K (.ref a) (.ref b) H R := by
  refine ⟨a, b, xs, ys, rfl, rfl, h1.seq, h2.seq, line_ge hl, fun e => k H b (Same.refl H) (by rw [e]; exact h2), fun _ e => k H a (Same.refl H) (by rw [e, List.append_nil]; exact h1), fun _ _ p np => k _ p (Same.new np) (.inl upd_same)⟩
theorem filter_snoc {α : Type} (f : α → Bool) {l : List α} {i : Nat} {x : α} (h : l[i]? = some x) : (l.take (i + 1)).filter f = if f x = true then (l.take i).filter f ++ [x] else (l.take i).filter f := by
  rw [List.take_succ, h, List.filter_append]
  simp only [Option.toList, List.filter_cons, List.filter_nil]
  split <;> simp
theorem fair_iff (l : Lad) : l.fair = true ↔ l.ins.length ≤ 6 ∧ l.ins.Nodup ∧ (1 ≤ l.outs.length ∧ l.outs.length ≤ 6) ∧ l.outs.Nodup ∧ (1 ≤ l.rs.length ∧ l.rs.length ≤ 30) ∧ (∀ n ∈ l.ins, n ∉ writ l.rs) ∧ (∀ n ∈ l.outs, n ∈ writ l.rs) ∧ crowd l.rs = false ∧ (writ l.rs).length ≤ 20 := by
  unfold Lad.fair
  simp only [Bool.and_eq_true, decide_eq_true_eq, List.all_eq_true, Bool.not_eq_true', decide_eq_false_iff_not, and_assoc]
def Lad.bad (l : Lad) : Option Xk := if l.named = true then (if l.fair = true then none else some .ladder) else some .name
/-- the arguments of Ladder: lists or tuples -/
def Sq2 (K : PySem.W.Frag) (H : Hp) (a : Addr) (xs : List V) : Prop := H a = some (.lst xs) ∨ Tp K H a xs
def spInitLd (K : PySem.W.Frag) (cs : Cs) (xc : Xc) : Sp := fun vs H Q E => ∃ (H0 : Hp) (x dx i o r : Addr) (ws : List V) (l : Lad), vs = [.ref x, .ref i, .ref o, .ref r] ∧ H x = some (.ins cs.ld dx []) ∧ Same H0 H ∧ H0 x = none ∧
  Sq2 K H0 i (l.ins.map V.str) ∧ Sq2 K H0 o (l.outs.map V.str) ∧ Sq2 K H0 r ws ∧ Two (IsR cs H0) ws l.rs ∧ l.ins.length ≤ 1000 ∧ l.outs.length ≤ 1000 ∧ l.rs.length ≤ 1000 ∧ (∀ n ∈ l.ins ++ l.outs, n.length ≤ 1000000) ∧
  (l.bad = none → ∀ H', Same H0 H' → IsL K cs H' (.ref x) l → Q .non H') ∧ (∀ b, l.bad = some b → ∀ H', Same H0 H' → E (.ref (xc.at b)) none H')
theorem ok_init_ld (T : TLad K mg cs cc xc) : MakAt P w K mg base (L2.CX P w) "Ladder" cs.ld 3 ["self", "inputs", "outputs", "rungs"] (spInitLd K cs xc) := by
  have G_is_name : FnAt P w K mg base CX0 "is_name" 2 _ spIsName := ok_is_name T.enk.ends.names
  have GX_need_between : FnAt P w K mg base (L2.CX P w) "need_between" 1 _ (spBetween K xc) := ok_between T
  have GX_need_single : FnAt P w K mg base (L2.CX P w) "need_single" 1 _ (spSingleN K xc) := ok_single1 T
  have GX_need_own : FnAt P w K mg base (L2.CX P w) "need_own" 1 _ (spOwn K cs xc) := ok_own T
  have G_written_names : DispAt P w K mg base CX0 (fun C => C = cs.ld) "written_names" 1 ["self"] (fun _ => spWrit K cs) := disp_written T
  have e_NoName := T.exs.e_name
  have e_NoLadder := T.exs.e_ladder
  refine makAt_of T.c_Ladder (methAt_okX T.c_Ladder.cl T.i_ld sc_Ladder___init__ (fun vs H Q E h => ?_) (fun f cdv A outer s H vs Q E hr h => ?_))
  · obtain ⟨H0, x, dx, i, o, r, ws, l, rfl, _⟩ := h; rfl
  · obtain ⟨H0, x, dx, i, o, r, ws, l, rfl, hx, s0, n0, hi, ho, hr2, hw, li, lo, lr, ln, q, qx⟩ := h
    have hu := hu_of hr
    refine ⟨_, (pss_cons (ps_fld (pv 0) (pe_callTy call_tuple_of (by rfl) T.z_tuple (show PySem.bootBuiltins "tuple" = some (.type "tuple") by decide +kernel) (pa_cons (pv 1) pa_nil)) rfl)
        (pss_cons (ps_fld (pv 0) (pe_callTy call_tuple_of (by rfl) T.z_tuple (show PySem.bootBuiltins "tuple" = some (.type "tuple") by decide +kernel) (pa_cons (pv 2) pa_nil)) rfl)
        (pss_cons (ps_fld (pv 0) (pe_callTy call_tuple_of (by rfl) T.z_tuple (show PySem.bootBuiltins "tuple" = some (.type "tuple") by decide +kernel) (pa_cons (pv 3) pa_nil)) rfl)
        (pss_cons (ps_for (L2.passes_of rfl) rfl (pi_tup (pe_op op_catA (pe_fld (pv 0) rfl) (pe_fld (pv 0) rfl))) (pg_name (i := 4) sc_Ladder___init__.nd rfl (by first | exact Or.inl rfl | exact Or.inr rfl)) (pss_one (ps_if (pt_not (pt_val (pe_callF G_is_name hr pass0 (pa_cons (pv 4) pa_nil)))) (pss_one (ps_raiseO rfl e_NoName (L2.takes_of rfl rfl rfl rfl))) pss_nil)))
        (pss_cons (ps_expr (pe_callF GX_need_between hr (passX (L2.takes_of rfl rfl rfl rfl)) (pa_cons (pe_fld (pv 0) rfl) (pa_cons pe_int (pa_cons (pe_gc T.g_MOST_NAMES) pa_nil)))))
        (pss_cons (ps_expr (pe_callF GX_need_single hr (passX (L2.takes_of rfl rfl rfl rfl)) (pa_cons (pe_fld (pv 0) rfl) pa_nil)))
        (pss_cons (ps_expr (pe_callF GX_need_between hr (passX (L2.takes_of rfl rfl rfl rfl)) (pa_cons (pe_fld (pv 0) rfl) (pa_cons pe_int (pa_cons (pe_gc T.g_MOST_NAMES) pa_nil)))))
        (pss_cons (ps_expr (pe_callF GX_need_single hr (passX (L2.takes_of rfl rfl rfl rfl)) (pa_cons (pe_fld (pv 0) rfl) pa_nil)))
        (pss_cons (ps_expr (pe_callF GX_need_between hr (passX (L2.takes_of rfl rfl rfl rfl)) (pa_cons (pe_fld (pv 0) rfl) (pa_cons pe_int (pa_cons (pe_gc T.g_MOST_RUNGS) pa_nil)))))
        (pss_cons (ps_set (i := 5) sc_Ladder___init__.nd rfl (by first | exact Or.inl rfl | exact Or.inr rfl) (pe_methD0 G_written_names hr pass0 (pv 0)))
        (pss_cons (ps_if (pt_cmpR (op_neE hr.units0) (pe_lc (own := [("name", 4)]) (g := gName 4) rfl sc_Ladder___init__.nd (pi_tup (pe_fld (pv 0) rfl)) (blkOk_by (own := [("name", 4)]) (N := ["self", "inputs", "outputs", "rungs", "name", "names"]) (sc := defScope s_Ladder___init__) (by decide +kernel)) (fun _ _ _ _ _ => pg_name (i := 4) sc_Ladder___init__.nd rfl (Or.inl rfl)) (fun _ _ _ _ _ => (pts_one (pt_cmpR (op_inK K rfl) (pv 4) (pv 5) rfl))) (fun _ _ _ _ _ => (pv 4))) (pe_lst pa_nil) (nomark _)) (pss_one (ps_raiseO rfl e_NoLadder (L2.takes_of rfl rfl rfl rfl))) pss_nil)
        (pss_cons (ps_if (pt_cmpR (op_neE hr.units0) (pe_lc (own := [("name", 4)]) (g := gName 4) rfl sc_Ladder___init__.nd (pi_tup (pe_fld (pv 0) rfl)) (blkOk_by (own := [("name", 4)]) (N := ["self", "inputs", "outputs", "rungs", "name", "names"]) (sc := defScope s_Ladder___init__) (by decide +kernel)) (fun _ _ _ _ _ => pg_name (i := 4) sc_Ladder___init__.nd rfl (Or.inl rfl)) (fun _ _ _ _ _ => (pts_one (pt_cmpR (op_notInK K rfl) (pv 4) (pv 5) rfl))) (fun _ _ _ _ _ => (pv 4))) (pe_lst pa_nil) (nomark _)) (pss_one (ps_raiseO rfl e_NoLadder (L2.takes_of rfl rfl rfl rfl))) pss_nil)
        (pss_cons (ps_expr (pe_callF GX_need_own hr (passX (L2.takes_of rfl rfl rfl rfl)) (pa_cons (pe_fld (pv 0) rfl) pa_nil)))
        (pss_one (ps_expr (pe_callF GX_need_between hr (passX (L2.takes_of rfl rfl rfl rfl)) (pa_cons (pv 5) (pa_cons pe_int (pa_cons (pe_gc T.g_MOST_WRITTEN) pa_nil))))))))))))))))))), ?_⟩
    walk_at "rd"
    refine sq2_tuple (k := 1) (σ := [some (.ref x), some (.ref i), some (.ref o), some (.ref r), none, none]) rfl s0 hi fun Ha ti sa ta => ?_
    have hxa := sa _ _ hx
    refine ⟨_, rfl, x, _, dx, [], rfl, hxa, T.c_Ladder.cl, T.ni_ld, (by show 0 < 1000; decide), ?_⟩
    have m1 : Imm (fun _ => False) Ha (upd Ha x (.ins cs.ld dx (putF "inputs" (.ref ti) []))) := Imm.mut hxa id
    have s1 : Same H0 (upd Ha x (.ins cs.ld dx (putF "inputs" (.ref ti) []))) := Same.mut (s0.trans sa) n0
    have ta1 := ta.mono m1
    have hx1 : upd Ha x (.ins cs.ld dx (putF "inputs" (.ref ti) [])) x = some (.ins cs.ld dx [("inputs", .ref ti)]) := upd_same
    generalize upd Ha x (.ins cs.ld dx (putF "inputs" (.ref ti) [])) = H1 at s1 ta1 hx1 ⊢
    walk_at "rd"
    refine sq2_tuple (k := 2) (σ := [some (.ref x), some (.ref i), some (.ref o), some (.ref r), none, none]) rfl s1 ho fun Hb tt sb tb => ?_
    have hxb := sb _ _ hx1
    refine ⟨_, rfl, x, _, dx, _, rfl, hxb, T.c_Ladder.cl, T.no_ld, (by show 1 < 1000; decide), ?_⟩
    have m2 : Imm (fun _ => False) Hb (upd Hb x (.ins cs.ld dx (putF "outputs" (.ref tt) [("inputs", .ref ti)]))) := Imm.mut hxb id
    have s2 : Same H0 (upd Hb x (.ins cs.ld dx (putF "outputs" (.ref tt) [("inputs", .ref ti)]))) := Same.mut (s1.trans sb) n0
    have ta2 := (ta1.mono (Same.imm0 sb)).mono m2
    have tb2 := tb.mono m2
    have hx2 : upd Hb x (.ins cs.ld dx (putF "outputs" (.ref tt) [("inputs", .ref ti)])) x = some (.ins cs.ld dx [("inputs", .ref ti), ("outputs", .ref tt)]) := upd_same
    generalize upd Hb x (.ins cs.ld dx (putF "outputs" (.ref tt) [("inputs", .ref ti)])) = H2 at s2 ta2 tb2 hx2 ⊢
    walk_at "rd"
    refine sq2_tuple (k := 3) (σ := [some (.ref x), some (.ref i), some (.ref o), some (.ref r), none, none]) rfl s2 hr2 fun Hc tr sc tc => ?_
    have hxc := sc _ _ hx2
    refine ⟨_, rfl, x, _, dx, _, rfl, hxc, T.c_Ladder.cl, T.nr_ld, (by show 2 < 1000; decide), ?_⟩
    have m3 : Imm (fun _ => False) Hc (upd Hc x (.ins cs.ld dx (putF "rungs" (.ref tr) [("inputs", .ref ti), ("outputs", .ref tt)]))) := Imm.mut hxc id
    have s3 : Same H0 (upd Hc x (.ins cs.ld dx (putF "rungs" (.ref tr) [("inputs", .ref ti), ("outputs", .ref tt)]))) := Same.mut (s2.trans sc) n0
    have t1 := (ta2.mono (Same.imm0 sc)).mono m3
    have t2 := (tb2.mono (Same.imm0 sc)).mono m3
    have t3 := tc.mono m3
    have hx3 : upd Hc x (.ins cs.ld dx (putF "rungs" (.ref tr) [("inputs", .ref ti), ("outputs", .ref tt)])) x = some (.ins cs.ld dx [("inputs", .ref ti), ("outputs", .ref tt), ("rungs", .ref tr)]) := upd_same
    generalize upd Hc x (.ins cs.ld dx (putF "rungs" (.ref tr) [("inputs", .ref ti), ("outputs", .ref tt)])) = H3 at s3 t1 t2 t3 hx3 ⊢
    clear ta ta1 ta2 tb tb2 tc m1 m2 m3 hx hxa hxb hxc hx1 hx2 s1 s2 sa sb sc hi ho hr2
    have w3 : Two (IsR cs H3) ws l.rs := hw.mono fun _ _ z => z.mono (Same.imm s3)
    have isl : IsL K cs H3 (.ref x) l := ⟨x, dx, ti, tt, tr, ws, rfl, hx3, t1, t2, t3, w3⟩
    walk_at "rd"
    refine ⟨_, rfl, x, _, dx, _, _, rfl, hx3, T.c_Ladder.cl, T.ni_ld, lkL1, _, rfl, x, _, dx, _, _, rfl, hx3, T.c_Ladder.cl, T.no_ld, lkL2, cat_tp t1 t2 (by rw [List.length_map, List.length_map]; omega) fun H4 p4 s4 tp4 => ?_⟩
    rw [← List.map_append] at tp4
    refine ⟨p4, rfl, ⟨_, tp4.seq⟩, for_tup (K := K) (a := p4) (xs := (l.ins ++ l.outs).map V.str) (fun i' σ H' => ∃ v4 : Option V, σ = [some (.ref x), some (.ref i), some (.ref o), some (.ref r), v4, none] ∧ Same H3 H' ∧ Tp K H' p4 ((l.ins ++ l.outs).map V.str) ∧ ∀ n ∈ (l.ins ++ l.outs).take i', isName n = true) ⟨none, rfl, s4, tp4, by simp⟩ (fun i' σ H' _ ⟨_, _, _, tp, _⟩ => tp.seq) ?_ ?_⟩
    · rintro i' y σ H5 hy ⟨v4, rfl, s5, tp5, hA⟩
      rw [List.getElem?_map] at hy
      obtain ⟨n, hn, rfl⟩ := Option.map_eq_some_iff.mp hy
      have hm := List.mem_of_getElem? hn
      walk_at "rd"
      refine ⟨n, rfl, line_ge (ln n hm), ?_⟩
      cases hnn : isName n with
      | false =>
        refine ⟨false, rfl, iteT (qx .name ?_ _ (s3.trans s5))⟩
        unfold Lad.bad Lad.named
        rw [if_neg]
        intro hall
        rw [List.all_eq_true.mp hall n hm] at hnn
        cases hnn
      | true =>
        refine ⟨true, rfl, iteF ⟨s5, tp5, fun z hz => ?_⟩⟩
        rw [List.take_succ, hn] at hz
        rcases List.mem_append.mp hz with hz | hz
        · exact hA z hz
        · rw [List.mem_singleton.mp hz]
          exact hnn
    rintro σ H5 ⟨v4, rfl, s5, tp5, hA⟩
    rw [List.length_map, List.take_length] at hA
    have hnamed : l.named = true := List.all_eq_true.mpr hA
    have bl : ¬ l.fair = true → l.bad = some .ladder := fun hf => by
      unfold Lad.bad
      rw [if_pos hnamed, if_neg hf]
    have fi := fair_iff l
    walk_at "rd"
    have hx5 := s5 _ _ hx3
    have u1 := t1.mono (Same.imm0 s5)
    have u2 := t2.mono (Same.imm0 s5)
    have u3 := t3.mono (Same.imm0 s5)
    have isl5 := isl.mono (Same.imm s5)
    have w5 : Two (IsR cs H5) ws l.rs := w3.mono fun _ _ z => z.mono (Same.imm s5)
    have s05 := s3.trans s5
    have hwl := w3.length
    clear s3 s5 s4 t1 t2 t3 tp4 tp5 hA hx3 w3 isl hw
    refine ⟨_, rfl, x, _, dx, _, _, rfl, hx5, T.c_Ladder.cl, T.ni_ld, lkL1, ti, _, 0, 6, rfl, u1.seq, fun g1 => ?_, fun h1 => qx .ladder (bl fun hf => h1 (by obtain ⟨f1, _⟩ := fi.mp hf; rw [List.length_map]; omega)) _ s05⟩
    refine ⟨_, rfl, x, _, dx, _, _, rfl, hx5, T.c_Ladder.cl, T.ni_ld, lkL1, ti, l.ins, rfl, u1.seq, li, fun g2 => ?_, fun h1 => qx .ladder (bl fun hf => h1 (fi.mp hf).2.1) _ s05⟩
    refine ⟨_, rfl, x, _, dx, _, _, rfl, hx5, T.c_Ladder.cl, T.no_ld, lkL2, tt, _, 1, 6, rfl, u2.seq, fun g3 => ?_, fun h1 => qx .ladder (bl fun hf => h1 (by obtain ⟨_, _, f1, _⟩ := fi.mp hf; rw [List.length_map]; omega)) _ s05⟩
    refine ⟨_, rfl, x, _, dx, _, _, rfl, hx5, T.c_Ladder.cl, T.no_ld, lkL2, tt, l.outs, rfl, u2.seq, lo, fun g4 => ?_, fun h1 => qx .ladder (bl fun hf => h1 (fi.mp hf).2.2.2.1) _ s05⟩
    refine ⟨_, rfl, x, _, dx, _, _, rfl, hx5, T.c_Ladder.cl, T.nr_ld, lkL3, tr, _, 1, 30, rfl, u3.seq, fun g5 => ?_, fun h1 => qx .ladder (bl fun hf => h1 (by obtain ⟨_, _, _, _, f1, _⟩ := fi.mp hf; rw [hwl]; omega)) _ s05⟩
    rw [List.length_map] at g1 g3
    rw [hwl] at g5
    refine ⟨_, rfl, x, _, dx, _, rfl, hx5, rfl, lkLw, .ref x, l, rfl, isl5, lr, fun H6 p6 s6 h6 => ?_⟩
    have hx6 := s6 _ _ hx5
    have v1 := u1.mono (Same.imm0 s6)
    have wl := writ_len l.rs
    refine ⟨_, rfl, x, _, dx, _, _, rfl, hx6, T.c_Ladder.cl, T.ni_ld, lkL1, ti, rfl, ⟨_, v1.seq⟩, fun D nD => lc_tup (K := K) (a := ti) (xs := l.ins.map V.str) (fun j H' => Same H6 H' ∧ H' D = some (.lst (((l.ins.take j).filter fun n => decide (n ∈ writ l.rs)).map V.str))) ⟨Same.new nD, upd_same⟩ (fun j H' _ q => (v1.mono (Same.imm0 q.1)).seq) ?_ ?_⟩
    · rintro j y H7 hy ⟨s7, hD⟩
      rw [List.getElem?_map] at hy
      obtain ⟨n, hn, rfl⟩ := Option.map_eq_some_iff.mp hy
      rw [filter_snoc _ hn]
      refine ⟨rfl, _, rfl, _, rfl, p6, _, rfl, .inr (SqT.of (s7 _ _ h6)), rfl, all_flatS _, _, rfl, ?_⟩
      have hfl := List.length_filter_le (fun n => decide (n ∈ writ l.rs)) (l.ins.take j)
      rw [List.length_take] at hfl
      rw [if_neg Bool.false_ne_true, inV_strs]
      by_cases hm : n ∈ writ l.rs
      · rw [decide_eq_true hm]
        refine iteT ⟨_, rfl, _, hD, by rw [List.length_map, sizeLine_eq]; omega, Same.mut s7 nD, ?_⟩
        rw [upd_same, if_pos rfl, List.map_append]
        rfl
      · rw [decide_eq_false hm]
        exact iteF ⟨s7, by rw [if_neg Bool.false_ne_true]; exact hD⟩
    rintro H7 ⟨s7, hD⟩
    rw [List.length_map, List.take_length] at hD
    refine ⟨Nat.zero_le _, fun z nz => ⟨D, z, _, rfl, rfl, SqL.of (Same.new nz _ _ hD), SqL.of upd_same, _, rfl, ?_⟩⟩
    have s8 : Same H6 (upd H7 z (.lst [])) := s7.trans (Same.new nz)
    have g6 : (List.map V.str (l.ins.filter fun n => decide (n ∈ writ l.rs))).isEmpty = decide (∀ n ∈ l.ins, n ∉ writ l.rs) := by
      rw [Bool.eq_iff_iff, decide_eq_true_eq, List.isEmpty_iff, List.map_eq_nil_iff, List.filter_eq_nil_iff]
      simp only [decide_eq_true_eq]
    rw [g6]
    by_cases hin : ∀ n ∈ l.ins, n ∉ writ l.rs
    case neg =>
      rw [decide_eq_false hin]
      exact iteT (qx .ladder (bl fun hf => hin (fi.mp hf).2.2.2.2.2.1) _ (s05.trans (s6.trans s8)))
    rw [decide_eq_true hin]
    refine iteF ?_
    generalize upd H7 z (.lst []) = H8 at s8 ⊢
    clear hD nz s7
    have hx8 := s8 _ _ hx6
    have v2 := u2.mono (Same.imm0 (s6.trans s8))
    have h8 := s8 _ _ h6
    refine ⟨_, rfl, x, _, dx, _, _, rfl, hx8, T.c_Ladder.cl, T.no_ld, lkL2, tt, rfl, ⟨_, v2.seq⟩, fun D2 nD2 => lc_tup (K := K) (a := tt) (xs := l.outs.map V.str) (fun j H' => Same H8 H' ∧ H' D2 = some (.lst (((l.outs.take j).filter fun n => !decide (n ∈ writ l.rs)).map V.str))) ⟨Same.new nD2, upd_same⟩ (fun j H' _ q => (v2.mono (Same.imm0 q.1)).seq) ?_ ?_⟩
    · rintro j y H9 hy ⟨s9, hD⟩
      rw [List.getElem?_map] at hy
      obtain ⟨n, hn, rfl⟩ := Option.map_eq_some_iff.mp hy
      rw [filter_snoc _ hn]
      refine ⟨rfl, _, rfl, _, rfl, p6, _, rfl, .inr (SqT.of (s9 _ _ h8)), rfl, all_flatS _, _, rfl, ?_⟩
      have hfl := List.length_filter_le (fun n => !decide (n ∈ writ l.rs)) (l.outs.take j)
      rw [List.length_take] at hfl
      rw [if_pos rfl, inV_strs]
      by_cases hm : n ∈ writ l.rs
      · rw [decide_eq_true hm]
        exact iteF ⟨s9, hD⟩
      · rw [decide_eq_false hm]
        refine iteT ⟨_, rfl, _, hD, by rw [List.length_map, sizeLine_eq]; omega, Same.mut s9 nD2, ?_⟩
        rw [upd_same]
        show _ = some (HO.lst (List.map V.str (List.filter (fun n => !decide (n ∈ writ l.rs)) (List.take j l.outs) ++ [n])))
        rw [List.map_append]
        rfl
    rintro H9 ⟨s9, hD⟩
    rw [List.length_map, List.take_length] at hD
    refine ⟨Nat.zero_le _, fun z nz => ⟨D2, z, _, rfl, rfl, SqL.of (Same.new nz _ _ hD), SqL.of upd_same, _, rfl, ?_⟩⟩
    have s10 : Same H8 (upd H9 z (.lst [])) := s9.trans (Same.new nz)
    have g7 : (List.map V.str (l.outs.filter fun n => !decide (n ∈ writ l.rs))).isEmpty = decide (∀ n ∈ l.outs, n ∈ writ l.rs) := by
      rw [Bool.eq_iff_iff, decide_eq_true_eq, List.isEmpty_iff, List.map_eq_nil_iff, List.filter_eq_nil_iff]
      simp only [Bool.not_eq_true', decide_eq_false_iff_not, Decidable.not_not]
    rw [g7]
    by_cases hout : ∀ n ∈ l.outs, n ∈ writ l.rs
    case neg =>
      rw [decide_eq_false hout]
      exact iteT (qx .ladder (bl fun hf => hout (fi.mp hf).2.2.2.2.2.2.1) _ (s05.trans (s6.trans (s8.trans s10))))
    rw [decide_eq_true hout]
    refine iteF ?_
    have s5z : Same H5 (upd H9 z (.lst [])) := s6.trans (s8.trans s10)
    generalize upd H9 z (.lst []) = Hz at s10 s5z ⊢
    have hxz := s5z _ _ hx5
    have hpz := (s8.trans s10) _ _ h6
    refine ⟨_, rfl, x, _, dx, _, _, rfl, hxz, T.c_Ladder.cl, T.nr_ld, lkL3, tr, ws, l.rs, rfl, u3.mono (Same.imm0 s5z), w5.mono (fun _ _ q => q.mono (Same.imm s5z)), lr, fun hcr Hq sq => ?_, fun hcr Hq sq => qx .ladder (bl fun hf => by rw [(fi.mp hf).2.2.2.2.2.2.2.1] at hcr; cases hcr) _ (s05.trans (s5z.trans sq))⟩
    have hrs : l.rs ≠ [] := by intro e; rw [e] at g5; simp at g5
    have wp := writ_pos hrs
    refine ⟨p6, _, 1, 20, rfl, SqT.of (sq _ _ hpz), fun g9 => ?_, fun h1 => qx .ladder (bl fun hf => h1 (by have := (fi.mp hf).2.2.2.2.2.2.2.2; rw [List.length_map]; omega)) _ (s05.trans (s5z.trans sq))⟩
    rw [List.length_map] at g9
    have hfair : l.fair = true := fi.mpr ⟨by omega, g2, by omega, g4, by omega, hin, hout, hcr, by omega⟩
    refine q ?_ _ (s05.trans (s5z.trans sq)) (isl5.mono (Same.imm (s5z.trans sq)))
    unfold Lad.bad
    rw [if_pos hnamed, if_pos hfair]
end

--%% N7
/-! ## works: the plain side -/
structure Ws where
  bits : List (Str × Bool)
  cnt : List (Str × Int)
  seen : List (Str × Bool)
def Ws.cntOf (w : Ws) (n : Str) : Int := (getL w.cnt n).getD 0
def Ws.seenOf (w : Ws) (n : Str) : Bool := (getL w.seen n).getD false
def Ws.bitOf (w : Ws) (n : Str) : Bool := (getL w.bits n).getD false
def cnt0 (rs : List Rg) : List (Str × Int) := rs.foldl (fun l r => if r.e.k.counts = true then putL l r.e.n 0 else l) []
def seen0 (rs : List Rg) : List (Str × Bool) := rs.foldl (fun l r => if r.e.k = .counter then putL l r.e.n false else l) []
def wNew (l : Lad) : Ws := ⟨(l.ins ++ writ l.rs).map fun n => (n, false), cnt0 l.rs, seen0 l.rs⟩
/-- what an end does -/
def act (w : Ws) (e : EndC) (h : Bool) : Ws := match e.k with
  | .coil => ⟨putL w.bits e.n h, w.cnt, w.seen⟩
  | .latch => if h = true then ⟨putL w.bits e.n true, w.cnt, w.seen⟩ else w
  | .unlatch => if h = true then ⟨putL w.bits e.n false, if e.n ∈ keysL w.cnt then putL w.cnt e.n 0 else w.cnt, w.seen⟩ else w
  | .timer => ⟨putL w.bits e.n (decide ((if h = true then min (w.cntOf e.n + 1) e.m else 0) = e.m)), putL w.cnt e.n (if h = true then min (w.cntOf e.n + 1) e.m else 0), w.seen⟩
  | .counter => ⟨putL w.bits e.n (decide ((if (h && !w.seenOf e.n) = true then min (w.cntOf e.n + 1) e.m else w.cntOf e.n) = e.m)), if (h && !w.seenOf e.n) = true then putL w.cnt e.n (min (w.cntOf e.n + 1) e.m) else w.cnt, putL w.seen e.n h⟩
def Ws.im (w : Ws) : Im := fun n => w.bitOf n
def putRow (b : List (Str × Bool)) (r : List (Str × Bool)) : List (Str × Bool) := r.foldl (fun b p => putL b p.1 p.2) b
/-- the rungs gone through: what is kept, and which held -/
def goRungs (w : Ws) (rs : List Rg) : Ws × List Bool := rs.foldl (fun s r => (act s.1 r.e (r.c.holds s.1.im), s.2 ++ [r.c.holds s.1.im])) (w, [])
def scanP (l : Lad) (w : Ws) (row : List Bool) : Ws × List Bool := goRungs ⟨putRow w.bits (l.ins.zip row), w.cnt, w.seen⟩ l.rs
theorem goRungs_snoc (w : Ws) (rs : List Rg) (r : Rg) : goRungs w (rs ++ [r]) = (act (goRungs w rs).1 r.e (r.c.holds (goRungs w rs).1.im), (goRungs w rs).2 ++ [r.c.holds (goRungs w rs).1.im]) := by
  unfold goRungs
  rw [List.foldl_append]
  rfl
theorem putRow_snoc (b : List (Str × Bool)) (r : List (Str × Bool)) (p : Str × Bool) : putRow b (r ++ [p]) = putL (putRow b r) p.1 p.2 := by
  unfold putRow
  rw [List.foldl_append]
  rfl
theorem cnt0_snoc (rs : List Rg) (r : Rg) : cnt0 (rs ++ [r]) = if r.e.k.counts = true then putL (cnt0 rs) r.e.n 0 else cnt0 rs := by
  unfold cnt0
  rw [List.foldl_append]
  rfl
theorem seen0_snoc (rs : List Rg) (r : Rg) : seen0 (rs ++ [r]) = if r.e.k = .counter then putL (seen0 rs) r.e.n false else seen0 rs := by
  unfold seen0
  rw [List.foldl_append]
  rfl
theorem cnt0_len (rs : List Rg) : (cnt0 rs).length ≤ rs.length := writ_ind (p := fun rs => (cnt0 rs).length ≤ rs.length) (by simp [cnt0]) (fun rs r ih => by
  rw [cnt0_snoc, List.length_append]
  have := put_le (l := cnt0 rs) (n := r.e.n) (v := 0)
  split <;> simp <;> omega) rs
theorem seen0_len (rs : List Rg) : (seen0 rs).length ≤ rs.length := writ_ind (p := fun rs => (seen0 rs).length ≤ rs.length) (by simp [seen0]) (fun rs r ih => by
  rw [seen0_snoc, List.length_append]
  have := put_le (l := seen0 rs) (n := r.e.n) (v := false)
  split <;> simp <;> omega) rs
theorem keysL_put {α : Type} {l : List (Str × α)} {n m : Str} {v : α} : m ∈ keysL (putL l n v) ↔ m ∈ keysL l ∨ m = n := by
  by_cases h : n ∈ keysL l
  · rw [keys_put h]
    exact ⟨.inl, fun q => q.elim id fun e => e ▸ h⟩
  · rw [keys_put_new h]
    simp
theorem cnt0_keys (n : Str) (rs : List Rg) : n ∈ keysL (cnt0 rs) ↔ ∃ r ∈ rs, r.e.k.counts = true ∧ r.e.n = n := by
  refine writ_ind (p := fun rs => n ∈ keysL (cnt0 rs) ↔ ∃ r ∈ rs, r.e.k.counts = true ∧ r.e.n = n) (by simp [cnt0, keysL]) (fun rs r ih => ?_) rs
  rw [cnt0_snoc]
  by_cases h : r.e.k.counts = true
  · rw [if_pos h, keysL_put, ih]
    constructor
    · rintro (⟨q, hq, h1⟩ | rfl)
      · exact ⟨q, List.mem_append_left _ hq, h1⟩
      · exact ⟨r, by simp, h, rfl⟩
    · rintro ⟨q, hq, h1, h2⟩
      rcases List.mem_append.mp hq with hq | hq
      · exact .inl ⟨q, hq, h1, h2⟩
      · rw [List.mem_singleton.mp hq] at h2
        exact .inr h2.symm
  · rw [if_neg h, ih]
    constructor
    · rintro ⟨q, hq, h1⟩
      exact ⟨q, List.mem_append_left _ hq, h1⟩
    · rintro ⟨q, hq, h1, h2⟩
      rcases List.mem_append.mp hq with hq | hq
      · exact ⟨q, hq, h1, h2⟩
      · rw [List.mem_singleton.mp hq] at h1
        exact absurd h1 h
theorem seen0_keys (n : Str) (rs : List Rg) : n ∈ keysL (seen0 rs) ↔ ∃ r ∈ rs, r.e.k = .counter ∧ r.e.n = n := by
  refine writ_ind (p := fun rs => n ∈ keysL (seen0 rs) ↔ ∃ r ∈ rs, r.e.k = .counter ∧ r.e.n = n) (by simp [seen0, keysL]) (fun rs r ih => ?_) rs
  rw [seen0_snoc]
  by_cases h : r.e.k = .counter
  · rw [if_pos h, keysL_put, ih]
    constructor
    · rintro (⟨q, hq, h1⟩ | rfl)
      · exact ⟨q, List.mem_append_left _ hq, h1⟩
      · exact ⟨r, by simp, h, rfl⟩
    · rintro ⟨q, hq, h1, h2⟩
      rcases List.mem_append.mp hq with hq | hq
      · exact .inl ⟨q, hq, h1, h2⟩
      · rw [List.mem_singleton.mp hq] at h2
        exact .inr h2.symm
  · rw [if_neg h, ih]
    constructor
    · rintro ⟨q, hq, h1⟩
      exact ⟨q, List.mem_append_left _ hq, h1⟩
    · rintro ⟨q, hq, h1, h2⟩
      rcases List.mem_append.mp hq with hq | hq
      · exact ⟨q, hq, h1, h2⟩
      · rw [List.mem_singleton.mp hq] at h1
        exact absurd h1 h
/-- the same names as at first -/
structure Fits (l : Lad) (w : Ws) : Prop where
  kb : keysL w.bits = l.ins ++ writ l.rs
  kc : keysL w.cnt = keysL (cnt0 l.rs)
  ks : keysL w.seen = keysL (seen0 l.rs)
theorem fits_new (l : Lad) : Fits l (wNew l) := ⟨by simp [keysL, wNew, Function.comp_def], rfl, rfl⟩
section
variable {l : Lad} {w : Ws} {r : Rg}
theorem Fits.bit (f : Fits l w) (h : r ∈ l.rs) : r.e.n ∈ keysL w.bits := by
  rw [f.kb]
  exact List.mem_append_right _ ((writ_mem _).mpr ⟨r, h, rfl⟩)
theorem Fits.cnt (f : Fits l w) (h : r ∈ l.rs) (hk : r.e.k.counts = true) : r.e.n ∈ keysL w.cnt := by
  rw [f.kc]
  exact (cnt0_keys _ _).mpr ⟨r, h, hk, rfl⟩
theorem Fits.seen (f : Fits l w) (h : r ∈ l.rs) (hk : r.e.k = .counter) : r.e.n ∈ keysL w.seen := by
  rw [f.ks]
  exact (seen0_keys _ _).mpr ⟨r, h, hk, rfl⟩
theorem Fits.act (f : Fits l w) (h : r ∈ l.rs) (b : Bool) : Fits l (act w r.e b) := by
  have hb := f.bit h
  unfold My.act
  cases hk : r.e.k with
  | coil => exact ⟨by rw [keys_put hb]; exact f.kb, f.kc, f.ks⟩
  | latch =>
    simp only
    split
    · exact ⟨by rw [keys_put hb]; exact f.kb, f.kc, f.ks⟩
    · exact f
  | unlatch =>
    simp only
    split
    · refine ⟨by rw [keys_put hb]; exact f.kb, ?_, f.ks⟩
      simp only
      split
      · rename_i hc
        rw [keys_put hc]
        exact f.kc
      · exact f.kc
    · exact f
  | timer =>
    have hc := f.cnt h (by rw [hk]; rfl)
    exact ⟨by rw [keys_put hb]; exact f.kb, by rw [keys_put hc]; exact f.kc, f.ks⟩
  | counter =>
    have hc := f.cnt h (by rw [hk]; rfl)
    have hs := f.seen h hk
    refine ⟨by rw [keys_put hb]; exact f.kb, ?_, by rw [keys_put hs]; exact f.ks⟩
    simp only
    split
    · rw [keys_put hc]
      exact f.kc
    · exact f.kc
theorem Fits.bits_len (f : Fits l w) : w.bits.length = l.ins.length + (writ l.rs).length := by
  have := congrArg List.length f.kb
  rw [len_keys, List.length_append] at this
  exact this
theorem Fits.cnt_len (f : Fits l w) : w.cnt.length ≤ l.rs.length := by
  have := congrArg List.length f.kc
  rw [len_keys, len_keys] at this
  have := cnt0_len l.rs
  omega
theorem Fits.seen_len (f : Fits l w) : w.seen.length ≤ l.rs.length := by
  have := congrArg List.length f.ks
  rw [len_keys, len_keys] at this
  have := seen0_len l.rs
  omega
theorem putRow_keys : ∀ (b : List (Str × Bool)) (r : List (Str × Bool)), (∀ p ∈ r, p.1 ∈ keysL b) → keysL (putRow b r) = keysL b := by
  intro b r
  induction r generalizing b with
  | nil => intro _; rfl
  | cons p r ih =>
    intro h
    have h1 := h p List.mem_cons_self
    show keysL (putRow (putL b p.1 p.2) r) = _
    rw [ih _ (fun q hq => by rw [keys_put h1]; exact h q (List.mem_cons_of_mem _ hq)), keys_put h1]
theorem Fits.row (f : Fits l w) (row : List Bool) : Fits l ⟨putRow w.bits (l.ins.zip row), w.cnt, w.seen⟩ := by
  refine ⟨?_, f.kc, f.ks⟩
  show keysL (putRow w.bits _) = _
  rw [putRow_keys]
  · exact f.kb
  · intro p hp
    rw [f.kb]
    exact List.mem_append_left _ (List.of_mem_zip hp).1
theorem Fits.go (f : Fits l w) : ∀ i, Fits l (goRungs w (l.rs.take i)).1
  | 0 => f
  | i + 1 => by
    by_cases h : i < l.rs.length
    · rw [List.take_succ, List.getElem?_eq_getElem h]
      show Fits l (goRungs w (l.rs.take i ++ [l.rs[i]])).1
      rw [goRungs_snoc]
      exact (f.go i).act (List.getElem_mem h) _
    · rw [List.take_of_length_le (by omega)]
      have := f.go i
      rw [List.take_of_length_le (by omega)] at this
      exact this
theorem Fits.scan (f : Fits l w) (row : List Bool) : Fits l (scanP l w row).1 := by
  have := (f.row row).go l.rs.length
  rw [List.take_length] at this
  exact this
theorem goRungs_len (w : Ws) (rs : List Rg) : (goRungs w rs).2.length = rs.length := writ_ind (p := fun rs => (goRungs w rs).2.length = rs.length) rfl (fun rs r ih => by rw [goRungs_snoc, List.length_append, List.length_append, ih]; rfl) rs
theorem scanP_len (l : Lad) (w : Ws) (row : List Bool) : (scanP l w row).2.length = l.rs.length := goRungs_len _ _
end
/-! ## three dicts -/
structure Tri (H : Hp) (b c s : Addr) (w : Ws) : Prop where
  hb : H b = some (.dK (dL V.bl w.bits))
  hc : H c = some (.dK (dL V.int w.cnt))
  hs : H s = some (.dK (dL V.bl w.seen))
  bc : b ≠ c
  bs : b ≠ s
  cs : c ≠ s
def But3 (b c s : Addr) (H H' : Hp) : Prop := ∀ a o, H a = some o → a ≠ b → a ≠ c → a ≠ s → H' a = some o
section
variable {H H' H2 : Hp} {b c s p : Addr} {w : Ws} {o : HO}
theorem But3.refl (H : Hp) : But3 b c s H H := fun _ _ e _ _ _ => e
theorem But3.trans (h : But3 b c s H H') (k : But3 b c s H' H2) : But3 b c s H H2 := fun a o e n1 n2 n3 => k a o (h a o e n1 n2 n3) n1 n2 n3
theorem Same.but3 (h : Same H H') : But3 b c s H H' := fun a o e _ _ _ => h a o e
theorem But3.ub : But3 b c s H (upd H b o) := fun a o e n1 _ _ => by rw [upd_ne n1]; exact e
theorem But3.uc : But3 b c s H (upd H c o) := fun a o e _ n2 _ => by rw [upd_ne n2]; exact e
theorem But3.us : But3 b c s H (upd H s o) := fun a o e _ _ n3 => by rw [upd_ne n3]; exact e
theorem Tri.keep (t : Tri H b c s w) (h : Same H H') : Tri H' b c s w := ⟨h _ _ t.hb, h _ _ t.hc, h _ _ t.hs, t.bc, t.bs, t.cs⟩
theorem Tri.putB (t : Tri H b c s w) (l : List (Str × Bool)) : Tri (upd H b (.dK (dL V.bl l))) b c s ⟨l, w.cnt, w.seen⟩ := ⟨upd_same, by rw [upd_ne t.bc.symm]; exact t.hc, by rw [upd_ne t.bs.symm]; exact t.hs, t.bc, t.bs, t.cs⟩
theorem Tri.putC (t : Tri H b c s w) (l : List (Str × Int)) : Tri (upd H c (.dK (dL V.int l))) b c s ⟨w.bits, l, w.seen⟩ := ⟨by rw [upd_ne t.bc]; exact t.hb, upd_same, by rw [upd_ne t.cs.symm]; exact t.hs, t.bc, t.bs, t.cs⟩
theorem Tri.putS (t : Tri H b c s w) (l : List (Str × Bool)) : Tri (upd H s (.dK (dL V.bl l))) b c s ⟨w.bits, w.cnt, l⟩ := ⟨by rw [upd_ne t.bs]; exact t.hb, by rw [upd_ne t.cs]; exact t.hc, upd_same, t.bc, t.bs, t.cs⟩
theorem But3.imm {T : Addr → Prop} (h : But3 b c s H H') (t : Tri H b c s w) : Imm T H H' := fun a o e i => h a o e
  (fun q => by rw [q, t.hb] at e; cases e; exact i) (fun q => by rw [q, t.hc] at e; cases e; exact i) (fun q => by rw [q, t.hs] at e; cases e; exact i)
theorem But3.same {H0 : Hp} (s0 : Same H0 H) (h : But3 b c s H H') (nb : H0 b = none) (nc : H0 c = none) (ns : H0 s = none) : Same H0 H' := fun a o e => h a o (s0 a o e) (ne_of_none e nb) (ne_of_none e nc) (ne_of_none e ns)
end
/-- three dicts and three others -/
def Ap3 (b c s b2 c2 s2 : Addr) : Prop := (b ≠ b2 ∧ b ≠ c2 ∧ b ≠ s2) ∧ (c ≠ b2 ∧ c ≠ c2 ∧ c ≠ s2) ∧ (s ≠ b2 ∧ s ≠ c2 ∧ s ≠ s2)
theorem Ap3.symm {b c s b2 c2 s2 : Addr} (h : Ap3 b c s b2 c2 s2) : Ap3 b2 c2 s2 b c s :=
  ⟨⟨h.1.1.symm, h.2.1.1.symm, h.2.2.1.symm⟩, ⟨h.1.2.1.symm, h.2.1.2.1.symm, h.2.2.2.1.symm⟩, ⟨h.1.2.2.symm, h.2.1.2.2.symm, h.2.2.2.2.symm⟩⟩
theorem Tri.ap {H : Hp} {b c s b2 c2 s2 : Addr} {u : Ws} (t : Tri H b c s u) (n1 : H b2 = none) (n2 : H c2 = none) (n3 : H s2 = none) : Ap3 b c s b2 c2 s2 :=
  ⟨⟨ne_of_none t.hb n1, ne_of_none t.hb n2, ne_of_none t.hb n3⟩, ⟨ne_of_none t.hc n1, ne_of_none t.hc n2, ne_of_none t.hc n3⟩, ⟨ne_of_none t.hs n1, ne_of_none t.hs n2, ne_of_none t.hs n3⟩⟩
theorem Tri.butA {H H' : Hp} {b c s b2 c2 s2 : Addr} {u : Ws} (t : Tri H b c s u) (k : But3 b2 c2 s2 H H') (n : Ap3 b c s b2 c2 s2) : Tri H' b c s u :=
  ⟨k _ _ t.hb n.1.1 n.1.2.1 n.1.2.2, k _ _ t.hc n.2.1.1 n.2.1.2.1 n.2.1.2.2, k _ _ t.hs n.2.2.1 n.2.2.2.1 n.2.2.2.2, t.bc, t.bs, t.cs⟩
theorem Tri.lock {H : Hp} {b c s d : Addr} {u : Ws} {od : Obj} {o : HO} (t : Tri H b c s u) (n : b ≠ d ∧ c ≠ d ∧ s ≠ d) : Tri (upd H d (.frz od o)) b c s u :=
  ⟨by rw [upd_ne n.1]; exact t.hb, by rw [upd_ne n.2.1]; exact t.hc, by rw [upd_ne n.2.2]; exact t.hs, t.bc, t.bs, t.cs⟩

--%% N8
/-! ## works: made -/
abbrev s_Works___init__ : Stmt := inClass (top 27) 0
theorem sc_Works___init__ : FnScope ["self", "ladder", "name", "rung"] ["self", "ladder"] (defScope s_Works___init__) := ⟨rfl, rfl, rfl, by decide +kernel, rfl, by decide +kernel, by decide +kernel⟩
structure TWorks (K : PySem.W.Frag) (mg : Str → Option Value) (cs : Cs) (cc : Addr) (xc : Xc) (cw : Addr) : Prop where
  lad : TLad K mg cs cc xc
  c_Works : ClsAt K mg "Works" cw
  nl_wk : NoAttr K cw "ladder"
  nb_wk : NoAttr K cw "bits"
  nc_wk : NoAttr K cw "counts"
  ns_wk : NoAttr K cw "seen"
  i_wk : MethAt K cw "__init__" "Works.__init__" s_Works___init__ ["self", "ladder"]
/-- the fields of works -/
def wkF (lv : V) (b c s : Addr) : List (Str × V) := [("ladder", lv), ("bits", .ref b), ("counts", .ref c), ("seen", .ref s)]
/-- at v stand works of the ladder l, at w -/
def IsW (K : PySem.W.Frag) (cs : Cs) (cw : Addr) (H : Hp) (v : V) (l : Lad) (b c s : Addr) (w : Ws) : Prop := ∃ a dx lv, v = .ref a ∧ H a = some (.ins cw dx (wkF lv b c s)) ∧ IsL K cs H lv l ∧ Tri H b c s w
section
variable {P : Program} {w : World} {K : PySem.W.Frag} {mg : Str → Option Value} {base : Heap} {cs : Cs} {cc : Addr} {xc : Xc} {cw : Addr}
theorem TWorks.z_isinstance (T : TWorks K mg cs cc xc cw) : mg "isinstance" = none := T.lad.z_isinstance
theorem TWorks.is_Timer (T : TWorks K mg cs cc xc cw) : Ru.IsT K cs.ce.timer (fun C b => ∃ k : Ek, C = cs.ce.at k ∧ b = decide (k = .timer)) := T.lad.enk.is_Timer
theorem TWorks.is_Counter (T : TWorks K mg cs cc xc cw) : Ru.IsT K cs.ce.counter (fun C b => ∃ k : Ek, C = cs.ce.at k ∧ b = decide (k = .counter)) := T.lad.enk.is_Counter
theorem TWorks.is_Coil (T : TWorks K mg cs cc xc cw) : Ru.IsT K cs.ce.coil (fun C b => ∃ k : Ek, C = cs.ce.at k ∧ b = decide (k = .coil)) := T.lad.enk.is_Coil
theorem TWorks.is_Latch (T : TWorks K mg cs cc xc cw) : Ru.IsT K cs.ce.latch (fun C b => ∃ k : Ek, C = cs.ce.at k ∧ b = decide (k = .latch)) := T.lad.enk.is_Latch
theorem TWorks.is_Unlatch (T : TWorks K mg cs cc xc cw) : Ru.IsT K cs.ce.unlatch (fun C b => ∃ k : Ek, C = cs.ce.at k ∧ b = decide (k = .unlatch)) := T.lad.enk.is_Unlatch
theorem TWorks.c_Timer (T : TWorks K mg cs cc xc cw) : ClsAt K mg "Timer" cs.ce.timer := T.lad.enk.c_Timer
theorem TWorks.c_Counter (T : TWorks K mg cs cc xc cw) : ClsAt K mg "Counter" cs.ce.counter := T.lad.enk.c_Counter
theorem TWorks.c_Coil (T : TWorks K mg cs cc xc cw) : ClsAt K mg "Coil" cs.ce.coil := T.lad.enk.c_Coil
theorem TWorks.c_Latch (T : TWorks K mg cs cc xc cw) : ClsAt K mg "Latch" cs.ce.latch := T.lad.enk.c_Latch
theorem TWorks.c_Unlatch (T : TWorks K mg cs cc xc cw) : ClsAt K mg "Unlatch" cs.ce.unlatch := T.lad.enk.c_Unlatch
theorem lkW1 {lv : V} {b c s : Addr} : List.lookup ("ladder" : Str) (wkF lv b c s) = some lv := by simp [List.lookup, wkF]
theorem lkW2 {lv : V} {b c s : Addr} : List.lookup ("bits" : Str) (wkF lv b c s) = some (.ref b) := by
  have e : (("bits" : Str) == ("ladder" : Str)) = false := by decide +kernel
  simp [List.lookup, wkF, e]
theorem lkW3 {lv : V} {b c s : Addr} : List.lookup ("counts" : Str) (wkF lv b c s) = some (.ref c) := by
  have e : (("counts" : Str) == ("ladder" : Str)) = false := by decide +kernel
  have e1 : (("counts" : Str) == ("bits" : Str)) = false := by decide +kernel
  simp [List.lookup, wkF, e, e1]
theorem lkW4 {lv : V} {b c s : Addr} : List.lookup ("seen" : Str) (wkF lv b c s) = some (.ref s) := by
  have e : (("seen" : Str) == ("ladder" : Str)) = false := by decide +kernel
  have e1 : (("seen" : Str) == ("bits" : Str)) = false := by decide +kernel
  have e2 : (("seen" : Str) == ("counts" : Str)) = false := by decide +kernel
  simp [List.lookup, wkF, e, e1, e2]
theorem lkWn {lv : V} {b c s : Addr} {m : Str} (h : ((m == ("ladder" : Str)) || (m == ("bits" : Str)) || (m == ("counts" : Str)) || (m == ("seen" : Str))) = false) : List.lookup m (wkF lv b c s) = none := by
  simp only [Bool.or_eq_false_iff] at h
  simp [List.lookup, wkF, h]
/-- works under way, made where H0 stood -/
structure Wi (H0 H : Hp) (x cw dx : Addr) (lv : V) (b c s : Addr) (w : Ws) : Prop where
  same : Same H0 H
  obj : H x = some (.ins cw dx (wkF lv b c s))
  tri : Tri H b c s w
  nb : H0 b = none
  nc : H0 c = none
  ns : H0 s = none
theorem Wi.ne {H0 H : Hp} {x cw dx : Addr} {lv : V} {b c s : Addr} {w : Ws} (i : Wi H0 H x cw dx lv b c s w) : x ≠ b ∧ x ≠ c ∧ x ≠ s :=
  ⟨fun e => (by have := i.obj; rw [e, i.tri.hb] at this; cases this), fun e => (by have := i.obj; rw [e, i.tri.hc] at this; cases this), fun e => (by have := i.obj; rw [e, i.tri.hs] at this; cases this)⟩
theorem Wi.putB {H0 H : Hp} {x cw dx : Addr} {lv : V} {b c s : Addr} {w : Ws} (i : Wi H0 H x cw dx lv b c s w) (l : List (Str × Bool)) : Wi H0 (upd H b (.dK (dL V.bl l))) x cw dx lv b c s ⟨l, w.cnt, w.seen⟩ := ⟨Same.mut i.same i.nb, by rw [upd_ne i.ne.1]; exact i.obj, i.tri.putB l, i.nb, i.nc, i.ns⟩
theorem Wi.putC {H0 H : Hp} {x cw dx : Addr} {lv : V} {b c s : Addr} {w : Ws} (i : Wi H0 H x cw dx lv b c s w) (l : List (Str × Int)) : Wi H0 (upd H c (.dK (dL V.int l))) x cw dx lv b c s ⟨w.bits, l, w.seen⟩ := ⟨Same.mut i.same i.nc, by rw [upd_ne i.ne.2.1]; exact i.obj, i.tri.putC l, i.nb, i.nc, i.ns⟩
theorem Wi.putS {H0 H : Hp} {x cw dx : Addr} {lv : V} {b c s : Addr} {w : Ws} (i : Wi H0 H x cw dx lv b c s w) (l : List (Str × Bool)) : Wi H0 (upd H s (.dK (dL V.bl l))) x cw dx lv b c s ⟨w.bits, w.cnt, l⟩ := ⟨Same.mut i.same i.ns, by rw [upd_ne i.ne.2.2]; exact i.obj, i.tri.putS l, i.nb, i.nc, i.ns⟩
theorem Wi.keep {H0 H H' : Hp} {x cw dx : Addr} {lv : V} {b c s : Addr} {w : Ws} (i : Wi H0 H x cw dx lv b c s w) (k : Same H H') : Wi H0 H' x cw dx lv b c s w := ⟨i.same.trans k, k _ _ i.obj, i.tri.keep k, i.nb, i.nc, i.ns⟩
theorem map_take_snoc {ns : List Str} {i : Nat} {n : Str} (h : ns[i]? = some n) (hn : ns.Nodup) : putL ((ns.take i).map fun n => (n, false)) n false = (ns.take (i + 1)).map fun n => (n, false) := by
  rw [keys_new, List.take_succ, h, List.map_append]
  · rfl
  · intro hm
    have hk : n ∈ ns.take i := by
      obtain ⟨p, hp, e⟩ := List.mem_map.mp hm
      obtain ⟨q, hq, rfl⟩ := List.mem_map.mp hp
      rw [← e]
      exact hq
    have hsp : ns.take i ++ ns.drop i = ns := List.take_append_drop i ns
    obtain ⟨hi, hg⟩ := List.getElem?_eq_some_iff.mp h
    rw [← hsp, List.nodup_append] at hn
    exact hn.2.2 n hk n (by rw [List.drop_eq_getElem_cons hi, hg]; exact List.mem_cons_self) rfl
theorem k_counts (k : Ek) : (decide (k = .timer) || decide (k = .counter)) = k.counts := by cases k <;> rfl
def spInitWk (K : PySem.W.Frag) (cs : Cs) (cw : Addr) : Sp := fun vs H Q _ => ∃ (H0 : Hp) (x dx : Addr) (lv : V) (l : Lad), vs = [.ref x, lv] ∧ H x = some (.ins cw dx []) ∧ Same H0 H ∧ H0 x = none ∧ IsL K cs H0 lv l ∧ l.fair = true ∧
  ∀ (H' : Hp) (b c s : Addr), Wi H0 H' x cw dx lv b c s (wNew l) → Q .non H'
theorem ok_init_wk (T : TWorks K mg cs cc xc cw) : MakAt P w K mg base CX0 "Works" cw 2 ["self", "ladder"] (spInitWk K cs cw) := by
  have G_written_names : DispAt P w K mg base CX0 (fun C => C = cs.ld) "written_names" 1 ["self"] (fun _ => spWrit K cs) := disp_written T.lad
  refine makAt_of T.c_Works (methAt_ok T.c_Works.cl T.i_wk sc_Works___init__ (fun vs H Q E h => ?_) (fun f cdv A outer st H vs Q E hr h => ?_))
  · obtain ⟨H0, x, dx, lv, l, rfl, _⟩ := h; rfl
  · obtain ⟨H0, x, dx, lv, l, rfl, hx, s0, n0, hl, hf, k⟩ := h
    have hu := hu_of hr
    obtain ⟨f1, f2, f3, f4, f5, f6, f7, f8, f9⟩ := (fair_iff l).mp hf
    refine ⟨_, (pss_cons (ps_fld (pv 0) (pv 1) rfl)
        (pss_cons (ps_fld (pv 0) pe_dnewK rfl)
        (pss_cons (ps_fld (pv 0) pe_dnewK rfl)
        (pss_cons (ps_fld (pv 0) pe_dnewK rfl)
        (pss_cons (ps_for PassesOwn.never rfl (pi_tup (pe_fld (pv 1) rfl)) (pg_name (i := 2) sc_Works___init__.nd rfl (by first | exact Or.inl rfl | exact Or.inr rfl)) (pss_one (ps_dput hu (pe_fld (pv 0) rfl) (pv 2) pe_bl rfl)))
        (pss_cons (ps_for PassesOwn.never rfl (pi_tup (pe_methD0 G_written_names hr pass0 (pv 1))) (pg_name (i := 2) sc_Works___init__.nd rfl (by first | exact Or.inl rfl | exact Or.inr rfl)) (pss_one (ps_dput hu (pe_fld (pv 0) rfl) (pv 2) pe_bl rfl)))
        (pss_one (ps_for PassesOwn.never rfl (pi_tup (pe_fld (pv 1) rfl)) (pg_name (i := 3) sc_Works___init__.nd rfl (by first | exact Or.inl rfl | exact Or.inr rfl)) (C8.pss_cut (ps_if (pt_val (pe_callB (call_isO2 T.is_Timer T.is_Counter) (by rfl) T.z_isinstance (by decide +kernel) (pa_cons (pe_fld (pv 3) rfl) (pa_cons (pe_tup (pa_cons (pe_cls T.c_Timer) (pa_cons (pe_cls T.c_Counter) pa_nil))) pa_nil)))) (pss_one (ps_dput hu (pe_fld (pv 0) rfl) (pe_fld (pe_fld (pv 3) rfl) rfl) pe_int rfl)) pss_nil)
          (pss_one (ps_if (pt_val (pe_callB (call_isO T.is_Counter) (by rfl) T.z_isinstance (by decide +kernel) (pa_cons (pe_fld (pv 3) rfl) (pa_cons (pe_cls T.c_Counter) pa_nil)))) (pss_one (ps_dput hu (pe_fld (pv 0) rfl) (pe_fld (pe_fld (pv 3) rfl) rfl) pe_bl rfl)) pss_nil))))))))))), ?_⟩
    walk_at "rd"
    refine ⟨_, rfl, _, rfl, x, _, dx, [], rfl, hx, T.c_Works.cl, T.nl_wk, (by show 0 < 1000; decide), fun b nb => ?_⟩
    have s1 : Same H0 (upd H x (.ins cw dx [("ladder", lv)])) := Same.mut s0 n0
    have x1 : upd H x (.ins cw dx [("ladder", lv)]) x = some (.ins cw dx [("ladder", lv)]) := upd_same
    have nb : upd H x (.ins cw dx [("ladder", lv)]) b = none := nb
    show sFld K (tVar 0) (fun σ H Q => Q (.ref b) (upd H b (.dK []))) _ _ _ (upd H x (.ins cw dx [("ladder", lv)]))
    generalize upd H x (.ins cw dx [("ladder", lv)]) = H1 at s1 x1 nb
    have b0 : H0 b = none := s1.free nb
    have xb : x ≠ b := ne_of_none x1 nb
    refine ⟨_, rfl, x, _, dx, _, rfl, Same.new nb _ _ x1, T.c_Works.cl, T.nb_wk, (by show 1 < 1000; decide), fun c nc => ?_⟩
    have s2 : Same H0 (upd (upd H1 b (.dK [])) x (.ins cw dx [("ladder", lv), ("bits", .ref b)])) := Same.mut (s1.trans (Same.new nb)) n0
    have x2 : upd (upd H1 b (.dK [])) x (.ins cw dx [("ladder", lv), ("bits", .ref b)]) x = some (.ins cw dx [("ladder", lv), ("bits", .ref b)]) := upd_same
    have hb2 : upd (upd H1 b (.dK [])) x (.ins cw dx [("ladder", lv), ("bits", .ref b)]) b = some (.dK []) := by rw [upd_ne xb.symm, upd_same]
    have nc : upd (upd H1 b (.dK [])) x (.ins cw dx [("ladder", lv), ("bits", .ref b)]) c = none := nc
    show sFld K (tVar 0) (fun σ H Q => Q (.ref c) (upd H c (.dK []))) _ _ _ (upd (upd H1 b (.dK [])) x (.ins cw dx [("ladder", lv), ("bits", .ref b)]))
    generalize upd (upd H1 b (.dK [])) x (.ins cw dx [("ladder", lv), ("bits", .ref b)]) = H2 at s2 x2 hb2 nc
    have c0 : H0 c = none := s2.free nc
    have xc' : x ≠ c := ne_of_none x2 nc
    have bc : b ≠ c := ne_of_none hb2 nc
    refine ⟨_, rfl, x, _, dx, _, rfl, Same.new nc _ _ x2, T.c_Works.cl, T.nc_wk, (by show 2 < 1000; decide), fun s ns => ?_⟩
    have s3 : Same H0 (upd (upd H2 c (.dK [])) x (.ins cw dx [("ladder", lv), ("bits", .ref b), ("counts", .ref c)])) := Same.mut (s2.trans (Same.new nc)) n0
    have x3 : upd (upd H2 c (.dK [])) x (.ins cw dx [("ladder", lv), ("bits", .ref b), ("counts", .ref c)]) x = some (.ins cw dx [("ladder", lv), ("bits", .ref b), ("counts", .ref c)]) := upd_same
    have hb3 : upd (upd H2 c (.dK [])) x (.ins cw dx [("ladder", lv), ("bits", .ref b), ("counts", .ref c)]) b = some (.dK []) := by rw [upd_ne xb.symm, upd_ne bc]; exact hb2
    have hc3 : upd (upd H2 c (.dK [])) x (.ins cw dx [("ladder", lv), ("bits", .ref b), ("counts", .ref c)]) c = some (.dK []) := by rw [upd_ne xc'.symm, upd_same]
    have ns : upd (upd H2 c (.dK [])) x (.ins cw dx [("ladder", lv), ("bits", .ref b), ("counts", .ref c)]) s = none := ns
    show sFld K (tVar 0) (fun σ H Q => Q (.ref s) (upd H s (.dK []))) _ _ _ (upd (upd H2 c (.dK [])) x (.ins cw dx [("ladder", lv), ("bits", .ref b), ("counts", .ref c)]))
    generalize upd (upd H2 c (.dK [])) x (.ins cw dx [("ladder", lv), ("bits", .ref b), ("counts", .ref c)]) = H3 at s3 x3 hb3 hc3 ns
    have s0' : H0 s = none := s3.free ns
    have xs' : x ≠ s := ne_of_none x3 ns
    have bs : b ≠ s := ne_of_none hb3 ns
    have cs' : c ≠ s := ne_of_none hc3 ns
    refine ⟨_, rfl, x, _, dx, _, rfl, Same.new ns _ _ x3, T.c_Works.cl, T.ns_wk, (by show 3 < 1000; decide), ?_⟩
    have w0 : Wi H0 (upd (upd H3 s (.dK [])) x (.ins cw dx (wkF lv b c s))) x cw dx lv b c s ⟨[], [], []⟩ :=
      ⟨Same.mut (s3.trans (Same.new ns)) n0, upd_same, ⟨by rw [upd_ne xb.symm, upd_ne bs]; exact hb3, by rw [upd_ne xc'.symm, upd_ne cs']; exact hc3, by rw [upd_ne xs'.symm, upd_same]; rfl, bc, bs, cs'⟩, b0, c0, s0'⟩
    show tSeq _ _ _ _ (upd (upd H3 s (.dK [])) x (.ins cw dx (wkF lv b c s)))
    generalize upd (upd H3 s (.dK [])) x (.ins cw dx (wkF lv b c s)) = H4 at w0
    obtain ⟨al, dl, ti, tt, tr, ws, rfl, hal, h1, h2, h3, h4⟩ := id hl
    have hlen := h4.length
    refine ⟨_, rfl, al, _, dl, _, _, rfl, w0.same _ _ hal, T.lad.c_Ladder.cl, T.lad.ni_ld, lkL1, ti, rfl, ⟨_, (h1.mono (Same.imm0 w0.same)).seq⟩,
      for_tup (K := K) (a := ti) (xs := l.ins.map V.str) (fun i σ H' => ∃ v2 : Option V, σ = [some (.ref x), some (.ref al), v2, none] ∧ Wi H0 H' x cw dx (.ref al) b c s ⟨(l.ins.take i).map fun n => (n, false), [], []⟩) ⟨none, rfl, w0⟩ (fun i σ H' _ ⟨_, _, q⟩ => (h1.mono (Same.imm0 q.same)).seq) ?_ ?_⟩
    · rintro i y σ H' hy ⟨v2, rfl, q⟩
      rw [List.getElem?_map] at hy
      obtain ⟨n, hn, rfl⟩ := Option.map_eq_some_iff.mp hy
      have hi := (List.getElem?_eq_some_iff.mp hn).1
      refine ⟨_, rfl, x, _, dx, _, _, rfl, q.obj, T.c_Works.cl, T.nb_wk, lkW2, _, rfl, b, _, rfl, DPut.k (k := .inr n) q.tri.hb (by rw [dL_len, List.length_map, List.length_take, sizeLine_eq]; omega), _, rfl, ?_⟩
      rw [dL_put, map_take_snoc hn f2]
      exact q.putB _
    rintro σ H5 ⟨v2, rfl, q5⟩
    rw [List.length_map, List.take_length] at q5
    clear w0
    refine ⟨_, rfl, al, _, dl, _, rfl, q5.same _ _ hal, rfl, lkLw, .ref al, l, rfl, hl.mono (Same.imm q5.same), by omega, fun H6 tw s6 htw => ?_⟩
    have q6 := q5.keep s6
    refine ⟨tw, rfl, ⟨_, SqT.of htw⟩, for_tup (K := K) (a := tw) (xs := (writ l.rs).map V.str) (fun i σ H' => ∃ v2 : Option V, σ = [some (.ref x), some (.ref al), v2, none] ∧ H' tw = some (.tup ((writ l.rs).map V.str)) ∧ Wi H0 H' x cw dx (.ref al) b c s ⟨((l.ins ++ writ l.rs).take (l.ins.length + i)).map fun n => (n, false), [], []⟩) ⟨v2, rfl, htw, by rw [Nat.add_zero, List.take_left]; exact q6⟩ (fun i σ H' _ ⟨_, _, e, q⟩ => SqT.of e) ?_ ?_⟩
    · rintro i y σ H' hy ⟨v2, rfl, e, q⟩
      rw [List.getElem?_map] at hy
      obtain ⟨n, hn, rfl⟩ := Option.map_eq_some_iff.mp hy
      have hi := (List.getElem?_eq_some_iff.mp hn).1
      have hn' : (l.ins ++ writ l.rs)[l.ins.length + i]? = some n := by rw [List.getElem?_append_right (by omega), Nat.add_sub_cancel_left]; exact hn
      have hnd : (l.ins ++ writ l.rs).Nodup := by
        rw [List.nodup_append]
        exact ⟨f2, writ_nodup _, fun a ha b hb e => f6 a ha (by rw [e]; exact hb)⟩
      refine ⟨_, rfl, x, _, dx, _, _, rfl, q.obj, T.c_Works.cl, T.nb_wk, lkW2, _, rfl, b, _, rfl, DPut.k (k := .inr n) q.tri.hb (by rw [dL_len, List.length_map, List.length_take, List.length_append, sizeLine_eq]; omega), _, rfl, ?_⟩
      rw [dL_put, map_take_snoc hn' hnd]
      refine ⟨?_, q.putB _⟩
      rw [upd_ne (fun e2 => by rw [e2, q.tri.hb] at e; cases e)]
      exact e
    rintro σ H7 ⟨v2, rfl, _, q7⟩
    rw [List.length_map, ← List.length_append, List.take_length] at q7
    clear q5 q6
    refine ⟨_, rfl, al, _, dl, _, _, rfl, q7.same _ _ hal, T.lad.c_Ladder.cl, T.lad.nr_ld, lkL3, tr, rfl, ⟨_, (h3.mono (Same.imm0 q7.same)).seq⟩,
      for_tup (K := K) (a := tr) (xs := ws) (fun i σ H' => ∃ v3 : Option V, σ = [some (.ref x), some (.ref al), v2, v3] ∧ Wi H0 H' x cw dx (.ref al) b c s ⟨(l.ins ++ writ l.rs).map fun n => (n, false), cnt0 (l.rs.take i), seen0 (l.rs.take i)⟩) ⟨none, rfl, q7⟩ (fun i σ H' _ ⟨_, _, q⟩ => (h3.mono (Same.imm0 q.same)).seq) ?_ ?_⟩
    · rintro i y σ H' hy ⟨v3, rfl, q⟩
      obtain ⟨r, hr', x', dx', p', e', rfl, hx', _, he'⟩ := h4.at hy
      obtain ⟨ea, de, rfl, hea⟩ := he'
      have hir := (List.getElem?_eq_some_iff.mp hr').1
      have lc := cnt0_len (l.rs.take i)
      have ls := seen0_len (l.rs.take i)
      rw [List.length_take] at lc ls
      rw [List.take_succ, hr']
      walk_at "rd"
      refine ⟨fun σ' H2 => σ' = [some (.ref x), some (.ref al), v2, some (.ref x')] ∧ Wi H0 H2 x cw dx (.ref al) b c s ⟨(l.ins ++ writ l.rs).map fun n => (n, false), cnt0 (l.rs.take i ++ [r]), seen0 (l.rs.take i)⟩, ?_, ?_⟩
      · walk_at "rd"
        refine ⟨_, rfl, x', _, dx', _, _, rfl, q.same _ _ hx', T.lad.c_Rung.cl, T.lad.ne_rg, lkR2, line_ge (by decide), fun t nt => ?_⟩
        have q1 := q.keep (Same.new (o := .tup [.ref cs.ce.timer, .ref cs.ce.counter]) nt)
        refine ⟨ea, t, _, de, _, _, rfl, upd_same, q1.same _ _ hea, ⟨_, ⟨r.e.k, rfl, rfl⟩, _, ⟨r.e.k, rfl, rfl⟩, rfl⟩, _, rfl, ?_⟩
        rw [k_counts, cnt0_snoc]
        cases hc : r.e.k.counts with
        | false => exact iteF q1
        | true =>
          refine iteT ⟨_, rfl, x, _, dx, _, _, rfl, q1.obj, T.c_Works.cl, T.nc_wk, lkW3, _, rfl, x', _, dx', _, _, rfl, q1.same _ _ hx', T.lad.c_Rung.cl, T.lad.ne_rg, lkR2, ea, _, de, _, _, rfl, q1.same _ _ hea, T.lad.enk.ends.cls _, T.lad.enk.ends.nn _, E_name _, c, _, rfl, DPut.k (k := .inr r.e.n) q1.tri.hc (by rw [dL_len, sizeLine_eq]; simp only; omega), rfl, ?_⟩
          rw [if_pos rfl]
          have q2 := q1.putC (putL (cnt0 (l.rs.take i)) r.e.n 0)
          rw [← dL_put] at q2
          exact q2
      rintro σ2 H2 ⟨rfl, q2⟩
      walk_at "rd"
      refine ⟨_, rfl, x', _, dx', _, _, rfl, q2.same _ _ hx', T.lad.c_Rung.cl, T.lad.ne_rg, lkR2, ea, _, de, _, _, rfl, q2.same _ _ hea, ⟨r.e.k, rfl, rfl⟩, _, rfl, ?_⟩
      show ite _ _ (Wi _ _ _ _ _ _ _ _ _ ⟨_, cnt0 (l.rs.take i ++ [r]), seen0 (l.rs.take i ++ [r])⟩)
      rw [seen0_snoc]
      by_cases hc : r.e.k = .counter
      · rw [decide_eq_true hc]
        refine iteT ⟨_, rfl, x, _, dx, _, _, rfl, q2.obj, T.c_Works.cl, T.ns_wk, lkW4, _, rfl, x', _, dx', _, _, rfl, q2.same _ _ hx', T.lad.c_Rung.cl, T.lad.ne_rg, lkR2, ea, _, de, _, _, rfl, q2.same _ _ hea, T.lad.enk.ends.cls _, T.lad.enk.ends.nn _, E_name _, s, _, rfl, DPut.k (k := .inr r.e.n) q2.tri.hs (by rw [dL_len, sizeLine_eq]; simp only; omega), _, rfl, ?_⟩
        have q3 := q2.putS (putL (seen0 (l.rs.take i)) r.e.n false)
        rw [← dL_put] at q3
        show Wi _ _ _ _ _ _ _ _ _ ⟨_, cnt0 (l.rs.take i ++ [r]), seen0 (l.rs.take i ++ [r])⟩
        rw [seen0_snoc, if_pos hc]
        exact q3
      · rw [decide_eq_false hc, if_neg hc]
        exact iteF q2
    · rintro σ H' ⟨v3, rfl, q⟩
      rw [hlen, List.take_length] at q
      exact k _ b c s q
end

--%% N9
/-! ## works: a scan -/
/-- bits as an image -/
theorem good_bits {b : List (Str × Bool)} (h : (keysL b).Nodup) (hl : b.length ≤ 100) : GoodD (dL V.bl b) := by
  refine ⟨fun p hp => ?_, by rw [dL_len]; exact hl⟩
  obtain ⟨q, hq, rfl⟩ := List.mem_map.mp hp
  refine ⟨?_, _, rfl⟩
  rw [dL_get]
  have : getL b q.1 = some q.2 := by
    unfold getL
    clear hl hp
    induction b with
    | nil => cases hq
    | cons x b ih =>
      rw [keysL, List.map_cons, List.nodup_cons] at h
      rcases List.mem_cons.mp hq with rfl | hq
      · rw [List.find?_cons_of_pos (by simp)]
        rfl
      · have : x.1 ≠ q.1 := fun e => h.1 (by rw [e]; exact List.mem_map.mpr ⟨q, hq, rfl⟩)
        rw [List.find?_cons_of_neg (by simpa using this)]
        exact ih h.2 hq
  rw [this]
  rfl
theorem im_bits (b : List (Str × Bool)) (c : List (Str × Int)) (s : List (Str × Bool)) : imF (dL V.bl b) = Ws.im ⟨b, c, s⟩ := by
  funext n
  unfold imF Ws.im Ws.bitOf
  rw [dL_get]
  show _ = (getL b n).getD false
  cases getL b n <;> rfl
/-! ## works: a scan -/
abbrev s_need_row : Stmt := top 26
theorem sc_need_row : FnScope ["ladder", "row", "truth"] ["ladder", "row"] (defScope s_need_row) := ⟨rfl, rfl, rfl, by decide +kernel, rfl, by decide +kernel, by decide +kernel⟩
abbrev s_Works_act : Stmt := inClass (top 27) 2
theorem sc_Works_act : FnScope ["self", "end", "holds"] ["self", "end", "holds"] (defScope s_Works_act) := ⟨rfl, rfl, rfl, by decide +kernel, rfl, by decide +kernel, by decide +kernel⟩
abbrev s_Works_count_on : Stmt := inClass (top 27) 3
theorem sc_Works_count_on : FnScope ["self", "end", "holds", "more"] ["self", "end", "holds"] (defScope s_Works_count_on) := ⟨rfl, rfl, rfl, by decide +kernel, rfl, by decide +kernel, by decide +kernel⟩
abbrev s_Works_scan : Stmt := inClass (top 27) 1
theorem sc_Works_scan : FnScope ["self", "row", "name", "truth", "held", "rung", "holds"] ["self", "row"] (defScope s_Works_scan) := ⟨rfl, rfl, rfl, by decide +kernel, rfl, by decide +kernel, by decide +kernel⟩
structure TScan (K : PySem.W.Frag) (mg : Str → Option Value) (cs : Cs) (cc : Addr) (xc : Xc) (cw : Addr) : Prop where
  wk : TWorks K mg cs cc xc cw
  hol : THolds K mg cs.cl
  d_need_row : DefAt K mg "need_row" s_need_row ["ladder", "row"]
  m_act : MethAt K cw "act" "Works.act" s_Works_act ["self", "end", "holds"]
  m_count_on : MethAt K cw "count_on" "Works.count_on" s_Works_count_on ["self", "end", "holds"]
  m_scan : MethAt K cw "scan" "Works.scan" s_Works_scan ["self", "row"]
  z_len : mg "len" = none
  z_min : mg "min" = none
  z_zip : mg "zip" = none
  z_bool : mg "bool" = none
  z_tuple : mg "tuple" = none
section
variable {P : Program} {w : World} {K : PySem.W.Frag} {mg : Str → Option Value} {base : Heap} {cs : Cs} {cc : Addr} {xc : Xc} {cw : Addr}
theorem TScan.z_isinstance (T : TScan K mg cs cc xc cw) : mg "isinstance" = none := T.wk.z_isinstance
theorem TScan.is_Timer (T : TScan K mg cs cc xc cw) : Ru.IsT K cs.ce.timer (fun C b => ∃ k : Ek, C = cs.ce.at k ∧ b = decide (k = .timer)) := T.wk.is_Timer
theorem TScan.c_Timer (T : TScan K mg cs cc xc cw) : ClsAt K mg "Timer" cs.ce.timer := T.wk.c_Timer
theorem TScan.is_Counter (T : TScan K mg cs cc xc cw) : Ru.IsT K cs.ce.counter (fun C b => ∃ k : Ek, C = cs.ce.at k ∧ b = decide (k = .counter)) := T.wk.is_Counter
theorem TScan.c_Counter (T : TScan K mg cs cc xc cw) : ClsAt K mg "Counter" cs.ce.counter := T.wk.c_Counter
theorem TScan.is_Coil (T : TScan K mg cs cc xc cw) : Ru.IsT K cs.ce.coil (fun C b => ∃ k : Ek, C = cs.ce.at k ∧ b = decide (k = .coil)) := T.wk.is_Coil
theorem TScan.c_Coil (T : TScan K mg cs cc xc cw) : ClsAt K mg "Coil" cs.ce.coil := T.wk.c_Coil
theorem TScan.is_Latch (T : TScan K mg cs cc xc cw) : Ru.IsT K cs.ce.latch (fun C b => ∃ k : Ek, C = cs.ce.at k ∧ b = decide (k = .latch)) := T.wk.is_Latch
theorem TScan.c_Latch (T : TScan K mg cs cc xc cw) : ClsAt K mg "Latch" cs.ce.latch := T.wk.c_Latch
theorem TScan.is_Unlatch (T : TScan K mg cs cc xc cw) : Ru.IsT K cs.ce.unlatch (fun C b => ∃ k : Ek, C = cs.ce.at k ∧ b = decide (k = .unlatch)) := T.wk.is_Unlatch
theorem TScan.c_Unlatch (T : TScan K mg cs cc xc cw) : ClsAt K mg "Unlatch" cs.ce.unlatch := T.wk.c_Unlatch
/-- works at x, their dicts -/
def AtW (cw : Addr) (H : Hp) (x : Addr) (b c s : Addr) : Prop := ∃ dx lv, H x = some (.ins cw dx (wkF lv b c s))
theorem AtW.ne {H : Hp} {x b c s : Addr} {w : Ws} (h : AtW cw H x b c s) (t : Tri H b c s w) : x ≠ b ∧ x ≠ c ∧ x ≠ s := by
  obtain ⟨dx, lv, h⟩ := h
  exact ⟨fun e => (by rw [e, t.hb] at h; cases h), fun e => (by rw [e, t.hc] at h; cases h), fun e => (by rw [e, t.hs] at h; cases h)⟩
def spCountOn (cs : Cs) (cw : Addr) : Sp := fun vs H Q _ => ∃ (x b c s : Addr) (v : V) (e : EndC) (h : Bool) (u : Ws), vs = [.ref x, v, .bl h] ∧ AtW cw H x b c s ∧ Tri H b c s u ∧ IsE cs.ce H v e ∧ e.k.counts = true ∧ e.n ∈ keysL u.bits ∧ e.n ∈ keysL u.cnt ∧ (e.k = .counter → e.n ∈ keysL u.seen) ∧
  u.bits.length ≤ 100 ∧ u.cnt.length ≤ 100 ∧ u.seen.length ≤ 100 ∧ ∀ H', But3 b c s H H' → Tri H' b c s (act u e h) → Q .non H'
theorem disp_count_on (T : TScan K mg cs cc xc cw) : DispAt P w K mg base CX0 (fun C => C = cw) "count_on" 1 ["self", "end", "holds"] (fun _ => spCountOn cs cw) := by
  refine ⟨fun C hC => ?_⟩
  subst hC
  refine methAt_ok T.wk.c_Works.cl T.m_count_on sc_Works_count_on (fun vs H Q E h => ?_) (fun f cdv A outer st H vs Q E hr h => ?_)
  · obtain ⟨x, b, c, s, v, e, h, u, rfl, _⟩ := h; rfl
  · obtain ⟨x, b, c, s, v, e, h, u, rfl, hx, ht, he, hk, hb, hc, hs, l1, l2, l3, k⟩ := h
    have hu := hu_of hr
    obtain ⟨dx, lv, hx⟩ := id hx
    obtain ⟨a, de, rfl, hea⟩ := he
    have hne := AtW.ne ⟨dx, lv, hx⟩ ht
    have heb : ∀ {q : Addr} {kvs : List (Key × V)}, H q = some (.dK kvs) → a ≠ q := fun h e => (by rw [e, h] at hea; cases hea)
    have hm := E_most (e := e) hk
    refine ⟨_, (pss_cons (ps_set (i := 3) sc_Works_count_on.nd rfl (by first | exact Or.inl rfl | exact Or.inr rfl) (pe_callB (call_min2 rfl) (by rfl) T.z_min (by decide +kernel) (pa_cons (pe_op op_add (pe_dget (by exact hu) (pe_fld (pv 0) rfl) (pe_fld (pv 1) rfl) (fun _ _ => rfl)) pe_int) (pa_cons (pe_fld (pv 1) rfl) pa_nil))))
        (pss_cons (ps_if (pt_val (pe_callB (call_isO T.is_Timer) (by rfl) T.z_isinstance (by decide +kernel) (pa_cons (pv 1) (pa_cons (pe_cls T.c_Timer) pa_nil)))) (pss_one (ps_dput hu (pe_fld (pv 0) rfl) (pe_fld (pv 1) rfl) (pe_ifExp (pt_val (pv 2)) (pv 3) pe_int) rfl)) (C8.pss_cut (ps_if (PW.pt (pw_and (pt_val (pv 2)) (pw_and1 (pt_not (pt_val (pe_dget (by exact hu) (pe_fld (pv 0) rfl) (pe_fld (pv 1) rfl) (fun _ _ => rfl))))))) (pss_one (ps_dput hu (pe_fld (pv 0) rfl) (pe_fld (pv 1) rfl) (pv 3) rfl)) pss_nil)
          (pss_one (ps_dput hu (pe_fld (pv 0) rfl) (pe_fld (pv 1) rfl) (pv 2) rfl))))
        (pss_one (ps_dput hu (pe_fld (pv 0) rfl) (pe_fld (pv 1) rfl) (pe_cmpR op_eq (pe_dget (by exact hu) (pe_fld (pv 0) rfl) (pe_fld (pv 1) rfl) (fun _ _ => rfl)) (pe_fld (pv 1) rfl) (nomark _)) rfl)))), ?_⟩
    walk_at "rd"
    have gc : getL u.cnt e.n = some (u.cntOf e.n) := by
      obtain ⟨q, hq⟩ := getL_mem.mpr hc
      unfold Ws.cntOf
      rw [hq]
      rfl
    refine ⟨_, rfl, x, _, dx, _, _, rfl, hx, T.wk.c_Works.cl, T.wk.nc_wk, lkW3, _, rfl, a, _, de, _, _, rfl, hea, T.wk.lad.enk.ends.cls _, T.wk.lad.enk.ends.nn _, E_name _, c, .int (u.cntOf e.n), rfl, .inl ⟨_, .inr e.n, .inl ht.hc, rfl, by rw [dL_get, gc]; rfl⟩, _, rfl, ?_⟩
    refine ⟨_, rfl, a, _, de, _, _, rfl, hea, T.wk.lad.enk.ends.cls _, T.wk.lad.enk.ends.nm _ hk, hm, _, e.m, ⟨rfl, rfl⟩, ?_⟩
    refine ⟨a, _, de, _, _, rfl, hea, ⟨e.k, rfl, rfl⟩, _, rfl, ?_⟩
    have emin : (if e.m < u.cntOf e.n + 1 then e.m else u.cntOf e.n + 1) = min (u.cntOf e.n + 1) e.m := by omega
    rw [emin]
    have keepx : ∀ {H' : Hp}, But3 b c s H H' → H' x = some (.ins C dx (wkF lv b c s)) ∧ H' a = some (.ins (cs.ce.at e.k) de e.fs) := fun q => ⟨q x _ hx hne.1 hne.2.1 hne.2.2, q a _ hea (heb ht.hb) (heb ht.hc) (heb ht.hs)⟩
    have tail : ∀ (j : Int) (H' : Hp) (u' : Ws) (cv : Int), But3 b c s H H' → Tri H' b c s u' → getL u'.cnt e.n = some cv → u'.bits = u.bits → act u e h = ⟨putL u.bits e.n (decide (cv = e.m)), u'.cnt, u'.seen⟩ →
        sDPut (tFld K (tVar 0) "bits") (tFld K (tVar 1) "name") (tOp rEq (tDGet (tFld K (tVar 0) "counts") (tFld K (tVar 1) "name")) (tFld K (tVar 1) "most")) { nx := fun x H' => Q V.non H', rt := Q } [some (.ref x), some (.ref a), some (.bl h), some (.int j)] H' := by
      intro j H' u' cv bt t' g' ebits eact
      obtain ⟨hx', hea'⟩ := keepx bt
      refine ⟨_, rfl, x, _, dx, _, _, rfl, hx', T.wk.c_Works.cl, T.wk.nc_wk, lkW3, _, rfl, a, _, de, _, _, rfl, hea', T.wk.lad.enk.ends.cls _, T.wk.lad.enk.ends.nn _, E_name _, c, .int cv, rfl, .inl ⟨_, .inr e.n, .inl t'.hc, rfl, by rw [dL_get, g']; rfl⟩, ?_⟩
      refine ⟨_, rfl, a, _, de, _, _, rfl, hea', T.wk.lad.enk.ends.cls _, T.wk.lad.enk.ends.nm _ hk, hm, scal_ii, ?_⟩
      refine ⟨_, rfl, x, _, dx, _, _, rfl, hx', T.wk.c_Works.cl, T.wk.nb_wk, lkW2, _, rfl, a, _, de, _, _, rfl, hea', T.wk.lad.enk.ends.cls _, T.wk.lad.enk.ends.nn _, E_name _, b, _, rfl, DPut.k (k := .inr e.n) t'.hb (by rw [dL_len, ebits, sizeLine_eq]; omega), ?_⟩
      have ed : decide (V.int cv = V.int e.m) = decide (cv = e.m) := by rw [decide_eq_decide, V.int.injEq]
      rw [ed]
      have q := k (upd H' b (.dK (dL V.bl (putL u'.bits e.n (decide (cv = e.m)))))) (bt.trans But3.ub) (by rw [eact, ebits]; exact t'.putB _)
      rw [← dL_put] at q
      exact q
    cases hkk : e.k with
    | coil => rw [hkk] at hk; cases hk
    | latch => rw [hkk] at hk; cases hk
    | unlatch => rw [hkk] at hk; cases hk
    | timer =>
      rw [if_pos (by decide)]
      have fin : ∀ cv : Int, cv = (if h = true then min (u.cntOf e.n + 1) e.m else 0) → sDPut (tFld K (tVar 0) "bits") (tFld K (tVar 1) "name") (tOp rEq (tDGet (tFld K (tVar 0) "counts") (tFld K (tVar 1) "name")) (tFld K (tVar 1) "most")) { nx := fun x H' => Q V.non H', rt := Q } [some (.ref x), some (.ref a), some (.bl h), some (.int (min (u.cntOf e.n + 1) e.m))] (upd H c (.dK (putK (dL V.int u.cnt) (.inr e.n) (.int cv)))) := by
        intro cv ecv
        refine tail _ _ ⟨u.bits, putL u.cnt e.n cv, u.seen⟩ cv But3.uc ?_ (by rw [getL_put, if_pos rfl]) rfl (by unfold My.act; rw [hkk, ecv])
        rw [dL_put]
        exact ht.putC _
      cases h with
      | true => exact ⟨_, rfl, _, rfl, iteT ⟨_, rfl, _, rfl, x, _, dx, _, _, rfl, hx, T.wk.c_Works.cl, T.wk.nc_wk, lkW3, _, rfl, a, _, de, _, _, rfl, hea, T.wk.lad.enk.ends.cls _, T.wk.lad.enk.ends.nn _, E_name _, c, _, rfl, DPut.k (k := .inr e.n) ht.hc (by rw [dL_len, sizeLine_eq]; omega), fin _ rfl⟩⟩
      | false => exact ⟨_, rfl, _, rfl, iteF ⟨_, rfl, x, _, dx, _, _, rfl, hx, T.wk.c_Works.cl, T.wk.nc_wk, lkW3, _, rfl, a, _, de, _, _, rfl, hea, T.wk.lad.enk.ends.cls _, T.wk.lad.enk.ends.nn _, E_name _, c, _, rfl, DPut.k (k := .inr e.n) ht.hc (by rw [dL_len, sizeLine_eq]; omega), fin _ rfl⟩⟩
    | counter =>
      rw [if_neg (by decide)]
      have gs : getL u.seen e.n = some (u.seenOf e.n) := by
        obtain ⟨q, hq⟩ := getL_mem.mpr (hs hkk)
        unfold Ws.seenOf
        rw [hq]
        rfl
      refine ⟨fun σ' H' => σ' = [some (.ref x), some (.ref a), some (.bl h), some (.int (min (u.cntOf e.n + 1) e.m))] ∧ But3 b c s H H' ∧ Tri H' b c s ⟨u.bits, if (h && !u.seenOf e.n) = true then putL u.cnt e.n (min (u.cntOf e.n + 1) e.m) else u.cnt, u.seen⟩, ?_, ?_⟩
      · cases h with
        | false => exact ⟨_, rfl, _, rfl, iteF (iteF ⟨rfl, But3.refl _, ht⟩)⟩
        | true =>
          refine ⟨_, rfl, _, rfl, iteT ⟨_, rfl, x, _, dx, _, _, rfl, hx, T.wk.c_Works.cl, T.wk.ns_wk, lkW4, _, rfl, a, _, de, _, _, rfl, hea, T.wk.lad.enk.ends.cls _, T.wk.lad.enk.ends.nn _, E_name _, s, .bl (u.seenOf e.n), rfl, .inl ⟨_, .inr e.n, .inl ht.hs, rfl, by rw [dL_get, gs]; rfl⟩, _, rfl, ?_⟩⟩
          cases u.seenOf e.n with
          | true => exact iteF ⟨rfl, But3.refl _, ht⟩
          | false =>
            refine iteT ⟨_, rfl, _, rfl, x, _, dx, _, _, rfl, hx, T.wk.c_Works.cl, T.wk.nc_wk, lkW3, _, rfl, a, _, de, _, _, rfl, hea, T.wk.lad.enk.ends.cls _, T.wk.lad.enk.ends.nn _, E_name _, c, _, rfl, DPut.k (k := .inr e.n) ht.hc (by rw [dL_len, sizeLine_eq]; omega), rfl, But3.uc, ?_⟩
            have q := ht.putC (putL u.cnt e.n (min (u.cntOf e.n + 1) e.m))
            rw [← dL_put] at q
            exact q
      rintro σ1 H1 ⟨rfl, bt, t1⟩
      obtain ⟨hx1, hea1⟩ := keepx bt
      refine ⟨_, rfl, _, rfl, x, _, dx, _, _, rfl, hx1, T.wk.c_Works.cl, T.wk.ns_wk, lkW4, _, rfl, a, _, de, _, _, rfl, hea1, T.wk.lad.enk.ends.cls _, T.wk.lad.enk.ends.nn _, E_name _, s, _, rfl, DPut.k (k := .inr e.n) t1.hs (by rw [dL_len, sizeLine_eq]; simp only; omega), ?_⟩
      have q := t1.putS (putL u.seen e.n h)
      rw [← dL_put] at q
      refine tail _ _ ⟨u.bits, if (h && !u.seenOf e.n) = true then putL u.cnt e.n (min (u.cntOf e.n + 1) e.m) else u.cnt, putL u.seen e.n h⟩ (if (h && !u.seenOf e.n) = true then min (u.cntOf e.n + 1) e.m else u.cntOf e.n) (bt.trans But3.us) q ?_ rfl (by unfold My.act; rw [hkk])
      show getL (if _ then _ else _) _ = _
      split
      · rw [getL_put, if_pos rfl]
      · exact gc
def spAct (cs : Cs) (cw : Addr) : Sp := fun vs H Q _ => ∃ (x b c s : Addr) (v : V) (e : EndC) (h : Bool) (u : Ws), vs = [.ref x, v, .bl h] ∧ AtW cw H x b c s ∧ Tri H b c s u ∧ IsE cs.ce H v e ∧ e.n ∈ keysL u.bits ∧ (e.k.counts = true → e.n ∈ keysL u.cnt) ∧ (e.k = .counter → e.n ∈ keysL u.seen) ∧
  u.bits.length ≤ 100 ∧ u.cnt.length ≤ 100 ∧ u.seen.length ≤ 100 ∧ ∀ H', But3 b c s H H' → Tri H' b c s (act u e h) → Q .non H'
theorem disp_act (T : TScan K mg cs cc xc cw) : DispAt P w K mg base CX0 (fun C => C = cw) "act" 2 ["self", "end", "holds"] (fun _ => spAct cs cw) := by
  have G_count_on : DispAt P w K mg base CX0 (fun C => C = cw) "count_on" 1 ["self", "end", "holds"] (fun _ => spCountOn cs cw) := disp_count_on T
  refine ⟨fun C hC => ?_⟩
  subst hC
  refine methAt_ok T.wk.c_Works.cl T.m_act sc_Works_act (fun vs H Q E h => ?_) (fun f cdv A outer st H vs Q E hr h => ?_)
  · obtain ⟨x, b, c, s, v, e, h, u, rfl, _⟩ := h; rfl
  · obtain ⟨x, b, c, s, v, e, h, u, rfl, hx, ht, he, hb, hc, hs, l1, l2, l3, k⟩ := h
    have hu := hu_of hr
    have hxw := hx
    have hev := he
    obtain ⟨dx, lv, hx⟩ := hx
    obtain ⟨a, de, rfl, hea⟩ := he
    have hne := AtW.ne ⟨dx, lv, hx⟩ ht
    refine ⟨_, (pss_one (ps_if (pt_val (pe_callB (call_isO T.is_Coil) (by rfl) T.z_isinstance (by decide +kernel) (pa_cons (pv 1) (pa_cons (pe_cls T.c_Coil) pa_nil)))) (pss_one (ps_dput hu (pe_fld (pv 0) rfl) (pe_fld (pv 1) rfl) (pv 2) rfl)) (pss_one (ps_if (pt_val (pe_callB (call_isO2 T.is_Timer T.is_Counter) (by rfl) T.z_isinstance (by decide +kernel) (pa_cons (pv 1) (pa_cons (pe_tup (pa_cons (pe_cls T.c_Timer) (pa_cons (pe_cls T.c_Counter) pa_nil))) pa_nil)))) (pss_one (ps_expr (pe_methD G_count_on hr pass0 (pv 0) (pa_cons (pv 1) (pa_cons (pv 2) pa_nil))))) (pss_one (ps_if (pt_val (pv 2)) (pss_cons (ps_dput hu (pe_fld (pv 0) rfl) (pe_fld (pv 1) rfl) (pe_callB (call_isO T.is_Latch) (by rfl) T.z_isinstance (by decide +kernel) (pa_cons (pv 1) (pa_cons (pe_cls T.c_Latch) pa_nil))) rfl)
              (pss_one (ps_if (PW.pt (pw_and (pt_val (pe_callB (call_isO T.is_Unlatch) (by rfl) T.z_isinstance (by decide +kernel) (pa_cons (pv 1) (pa_cons (pe_cls T.c_Unlatch) pa_nil)))) (pw_and1 (pt_cmp (pc_din hu (pe_fld (pv 1) rfl) (pe_fld (pv 0) rfl)))))) (pss_one (ps_dput hu (pe_fld (pv 0) rfl) (pe_fld (pv 1) rfl) pe_int rfl)) pss_nil))) pss_nil)))))), ?_⟩
    walk_at "rd"
    refine ⟨a, _, de, _, _, rfl, hea, ⟨e.k, rfl, rfl⟩, _, rfl, ?_⟩
    have putbit : ∀ (R : Hp → Prop) {v : Bool} {H1 : Hp}, H1 x = some (.ins C dx (wkF lv b c s)) → H1 a = some (.ins (cs.ce.at e.k) de e.fs) → Tri H1 b c s u → R (upd H1 b (.dK (dL V.bl (putL u.bits e.n v)))) →
        tFld K (tVar 0) "bits" [some (.ref x), some (.ref a), some (.bl h)] H1 fun d H2 => tFld K (tVar 1) "name" [some (.ref x), some (.ref a), some (.bl h)] H2 fun k H3 => ∃ p H4, d = .ref p ∧ DPut H3 p k (.bl v) H4 ∧ R H4 := by
      intro R v H1 hx1 hea1 t1 q
      refine ⟨_, rfl, x, _, dx, _, _, rfl, hx1, T.wk.c_Works.cl, T.wk.nb_wk, lkW2, _, rfl, a, _, de, _, _, rfl, hea1, T.wk.lad.enk.ends.cls _, T.wk.lad.enk.ends.nn _, E_name _, b, _, rfl, DPut.k (k := .inr e.n) t1.hb (by rw [dL_len, sizeLine_eq]; omega), ?_⟩
      rw [dL_put]
      exact q
    by_cases hcoil : e.k = .coil
    · rw [decide_eq_true hcoil, if_pos rfl]
      refine ⟨_, rfl, putbit (fun H' => Q .non H') hx hea ht (k _ But3.ub ?_)⟩
      unfold My.act
      rw [hcoil]
      exact ht.putB _
    rw [decide_eq_false hcoil, if_neg Bool.false_ne_true]
    refine ⟨line_ge (by decide), fun t nt => ⟨a, t, _, de, _, _, rfl, upd_same, Same.new nt _ _ hea, ⟨_, ⟨e.k, rfl, rfl⟩, _, ⟨e.k, rfl, rfl⟩, rfl⟩, _, rfl, ?_⟩⟩
    have st := Same.new (o := .tup [.ref cs.ce.timer, .ref cs.ce.counter]) nt
    have hx1 := st _ _ hx
    have hea1 := st _ _ hea
    have t1 := ht.keep st
    have b1 : But3 b c s H (upd H t (.tup [.ref cs.ce.timer, .ref cs.ce.counter])) := Same.but3 st
    generalize upd H t (.tup [.ref cs.ce.timer, .ref cs.ce.counter]) = H1 at hx1 hea1 t1 b1
    rw [k_counts]
    cases hk : e.k.counts with
    | true =>
      refine iteT ⟨_, rfl, x, C, dx, _, rfl, hx1, rfl, lkWn (by decide +kernel), _, rfl, _, rfl, x, b, c, s, .ref a, e, h, u, rfl, ⟨dx, lv, hx1⟩, t1, ⟨a, de, rfl, hea1⟩, hk, hb, hc hk, hs, l1, l2, l3, fun H2 b2 t2 => k H2 (b1.trans b2) t2⟩
    | false =>
      refine iteF ?_
      cases h with
      | false =>
        refine iteF (k _ b1 ?_)
        have : act u e false = u := by
          unfold My.act
          cases hkk : e.k with
          | coil => exact absurd hkk hcoil
          | latch => rfl
          | unlatch => rfl
          | timer => rw [hkk] at hk; cases hk
          | counter => rw [hkk] at hk; cases hk
        rw [this]
        exact t1
      | true =>
        refine iteT ⟨_, rfl, a, _, de, _, _, rfl, hea1, ⟨e.k, rfl, rfl⟩, putbit _ hx1 hea1 t1 ?_⟩
        have t2 := t1.putB (putL u.bits e.n (decide (e.k = .latch)))
        have b2 := b1.trans (But3.ub (b := b) (c := c) (s := s) (H := H1) (o := .dK (dL V.bl (putL u.bits e.n (decide (e.k = .latch))))))
        have hx2 : upd H1 b (.dK (dL V.bl (putL u.bits e.n (decide (e.k = .latch))))) x = some (.ins C dx (wkF lv b c s)) := by rw [upd_ne hne.1]; exact hx1
        have hea2 : upd H1 b (.dK (dL V.bl (putL u.bits e.n (decide (e.k = .latch))))) a = some (.ins (cs.ce.at e.k) de e.fs) := by
          rw [upd_ne (fun q => by rw [q, t1.hb] at hea1; cases hea1)]
          exact hea1
        generalize upd H1 b (.dK (dL V.bl (putL u.bits e.n (decide (e.k = .latch))))) = H2 at t2 b2 hx2 hea2 ⊢
        refine ⟨_, rfl, a, _, de, _, _, rfl, hea2, ⟨e.k, rfl, rfl⟩, _, rfl, ?_⟩
        by_cases hun : e.k = .unlatch
        · rw [decide_eq_true hun]
          have eact : act u e true = ⟨putL u.bits e.n false, if e.n ∈ keysL u.cnt then putL u.cnt e.n 0 else u.cnt, u.seen⟩ := by
            unfold My.act
            rw [hun]
            rfl
          rw [hun] at t2
          refine iteT ⟨_, rfl, a, _, de, _, _, rfl, hea2, T.wk.lad.enk.ends.cls _, T.wk.lad.enk.ends.nn _, E_name _, _, rfl, x, _, dx, _, _, rfl, hx2, T.wk.c_Works.cl, T.wk.nc_wk, lkW3, ?_⟩
          refine ⟨c, valV (dL V.int u.cnt) (.inr e.n : Key), rfl, .inl ⟨_, .inr e.n, .inl t2.hc, rfl, rfl⟩, _, rfl, ?_⟩
          rw [dL_get]
          by_cases hin : e.n ∈ keysL u.cnt
          · obtain ⟨q, hq⟩ := getL_mem.mpr hin
            rw [hq]
            refine iteT ⟨_, rfl, x, _, dx, _, _, rfl, hx2, T.wk.c_Works.cl, T.wk.nc_wk, lkW3, _, rfl, a, _, de, _, _, rfl, hea2, T.wk.lad.enk.ends.cls _, T.wk.lad.enk.ends.nn _, E_name _, c, _, rfl, DPut.k (k := .inr e.n) t2.hc (by rw [dL_len, sizeLine_eq]; show u.cnt.length < _; omega), k _ (b2.trans But3.uc) ?_⟩
            rw [eact, if_pos hin]
            have q := t2.putC (putL u.cnt e.n 0)
            rw [← dL_put] at q
            exact q
          · rw [getL_none.mpr hin]
            refine iteF (k _ b2 ?_)
            rw [eact, if_neg hin]
            exact t2
        · rw [decide_eq_false hun]
          have hl : e.k = .latch := by
            cases hkk : e.k with
            | coil => exact absurd hkk hcoil
            | latch => rfl
            | unlatch => exact absurd hkk hun
            | timer => rw [hkk] at hk; cases hk
            | counter => rw [hkk] at hk; cases hk
          refine iteF (iteF (k _ b2 ?_))
          unfold My.act
          rw [hl] at t2 ⊢
          exact t2
/-- a row that is asked for: a list or a tuple -/
def spNeedRow (K : PySem.W.Frag) (cs : Cs) (xc : Xc) : Sp := fun vs H Q E => ∃ (lv : V) (r : Addr) (l : Lad) (ws : List V), vs = [lv, .ref r] ∧ IsL K cs H lv l ∧ Sq K H r ws ∧ ws.all flatV = true ∧
  (ws.length = l.ins.length → (∀ v ∈ ws, isBlV v = true) → Q .non H) ∧ (¬ (ws.length = l.ins.length ∧ ∀ v ∈ ws, isBlV v = true) → E (.ref xc.row) none H)
theorem ok_need_row (T : TScan K mg cs cc xc cw) : FnAt P w K mg base (L2.CX P w) "need_row" 1 ["ladder", "row"] (spNeedRow K cs xc) := by
  have e_NoRow := T.wk.lad.exs.e_row
  refine fnAt_okX T.d_need_row sc_need_row (fun vs H Q E h => ?_) (fun f cdv A outer st H vs Q E hr h => ?_)
  · obtain ⟨lv, r, l, ws, rfl, _⟩ := h; rfl
  · obtain ⟨lv, r, l, ws, rfl, hl, hs, hf, q, qx⟩ := h
    obtain ⟨al, dl, ti, tt, tr, us, rfl, hal, h1, h2, h3, h4⟩ := hl
    refine ⟨_, (pss_cons (ps_if (pt_cmpR op_ne (pe_callB call_len_seq (by rfl) T.z_len PySem.boot_len (pa_cons (pv 1) pa_nil)) (pe_callB call_len_seq (by rfl) T.z_len PySem.boot_len (pa_cons (pe_fld (pv 0) rfl) pa_nil)) (nomark _)) (pss_one (ps_raiseO rfl e_NoRow (L2.takes_of rfl rfl rfl rfl))) pss_nil)
        (pss_one (ps_for (L2.passes_of rfl) rfl (pi_any (pv 1)) (pg_name (i := 2) sc_need_row.nd rfl (by first | exact Or.inl rfl | exact Or.inr rfl)) (pss_one (ps_if (pt_not (pt_val (pe_callB call_isBool (by rfl) T.z_isinstance (by decide +kernel) (pa_cons (pv 2) (pa_cons (pe_bltn (v := .ty "bool") (by rfl) T.z_bool (by decide +kernel) rfl) pa_nil))))) (pss_one (ps_raiseO rfl e_NoRow (L2.takes_of rfl rfl rfl rfl))) pss_nil))))), ?_⟩
    walk_at "rd"
    refine ⟨ws, hs, _, rfl, al, _, dl, _, _, rfl, hal, T.wk.lad.c_Ladder.cl, T.wk.lad.ni_ld, lkL1, ti, rfl, _, .inr h1.seq, ?_⟩
    rw [List.length_map]
    by_cases hlen : ws.length = l.ins.length
    · rw [decide_eq_true (show ((ws.length : Nat) : Int) = (l.ins.length : Int) by omega)]
      refine iteF ⟨_, rfl, r, ws, rfl, for_any (K := K) (a := r) (xs := ws) (fun i σ H' => ∃ v2 : Option V, σ = [some (.ref al), some (.ref r), v2] ∧ H' = H ∧ ∀ v ∈ ws.take i, isBlV v = true) ⟨none, rfl, rfl, by simp⟩ ?_ ?_ ?_⟩
      · rcases hs with hs | hs
        · exact .inl fun i σ H' _ ⟨_, _, e, _⟩ => e ▸ hs
        · exact .inr fun i σ H' _ ⟨_, _, e, _⟩ => e ▸ hs
      · rintro i v σ H' hv ⟨v2, rfl, rfl, hb⟩
        have hm := List.mem_of_getElem? hv
        have fv : flatV v = true := List.all_eq_true.mp hf v hm
        walk_at "rd"
        refine ⟨fv, ?_⟩
        show (if (!isBlV v) = true then _ else _)
        cases hbv : isBlV v with
        | true =>
          refine iteF (fun u hu => ?_)
          rw [List.take_succ, hv] at hu
          rcases List.mem_append.mp hu with hu | hu
          · exact hb u hu
          · rw [List.mem_singleton.mp hu]
            exact hbv
        | false => exact iteT (qx fun z => by have := z.2 v hm; rw [hbv] at this; cases this)
      · rintro σ H' ⟨v2, rfl, rfl, hb⟩
        rw [List.take_length] at hb
        exact q hlen hb
    · rw [decide_eq_false (show ¬ ((ws.length : Nat) : Int) = (l.ins.length : Int) by omega)]
      exact iteT (qx fun z => hlen z.1)
theorem But3.sqL {K : PySem.W.Frag} {H H' : Hp} {b c s a : Addr} {w : Ws} {xs : List V} (k : But3 b c s H H') (t : Tri H b c s w) (h : SqL K H a xs) : SqL K H' a xs := by
  rcases h with (h | ⟨o, h⟩) | h
  · exact .inl (.inl (k _ _ h (fun e => by rw [e, t.hb] at h; cases h) (fun e => by rw [e, t.hc] at h; cases h) (fun e => by rw [e, t.hs] at h; cases h)))
  · exact .inl (.inr ⟨o, k _ _ h (fun e => by rw [e, t.hb] at h; cases h) (fun e => by rw [e, t.hc] at h; cases h) (fun e => by rw [e, t.hs] at h; cases h)⟩)
  · exact .inr h
theorem But3.sqT {K : PySem.W.Frag} {H H' : Hp} {b c s a : Addr} {w : Ws} {xs : List V} (k : But3 b c s H H') (t : Tri H b c s w) (h : SqT K H a xs) : SqT K H' a xs := by
  rcases h with (h | ⟨o, h⟩) | h
  · exact .inl (.inl (k _ _ h (fun e => by rw [e, t.hb] at h; cases h) (fun e => by rw [e, t.hc] at h; cases h) (fun e => by rw [e, t.hs] at h; cases h)))
  · exact .inl (.inr ⟨o, k _ _ h (fun e => by rw [e, t.hb] at h; cases h) (fun e => by rw [e, t.hc] at h; cases h) (fun e => by rw [e, t.hs] at h; cases h)⟩)
  · exact .inr h
theorem But3.free {H H' : Hp} {b c s p : Addr} {w : Ws} (t : Tri H' b c s w) (k : But3 b c s H H') (np : H' p = none) : H p = none := by
  cases e : H p with
  | none => rfl
  | some o =>
    exfalso
    rw [k _ _ e (fun q => by rw [q, t.hb] at np; cases np) (fun q => by rw [q, t.hc] at np; cases np) (fun q => by rw [q, t.hs] at np; cases np)] at np
    cases np
theorem But3.off {H H' : Hp} {b c s p : Addr} {o : HO} (k : But3 b c s H H') (pn : H p = none) : But3 b c s H (upd H' p o) := fun a u e n1 n2 n3 => by
  rw [upd_ne (ne_of_none e pn)]
  exact k a u e n1 n2 n3
theorem Tri.off {H : Hp} {b c s p : Addr} {o : HO} {w : Ws} (t : Tri H b c s w) (pb : p ≠ b) (pc : p ≠ c) (ps : p ≠ s) : Tri (upd H p o) b c s w :=
  ⟨by rw [upd_ne pb.symm]; exact t.hb, by rw [upd_ne pc.symm]; exact t.hc, by rw [upd_ne ps.symm]; exact t.hs, t.bc, t.bs, t.cs⟩
/-- a good row -/
def spScan (K : PySem.W.Frag) (cs : Cs) (cw : Addr) (xc : Xc) : Sp := fun vs H Q E => ∃ (x dx r b c s : Addr) (lv : V) (l : Lad) (u : Ws) (ws : List V), vs = [.ref x, .ref r] ∧ H x = some (.ins cw dx (wkF lv b c s)) ∧ IsL K cs H lv l ∧ Tri H b c s u ∧ Fits l u ∧ l.fair = true ∧ (∀ g ∈ l.rs, g.c.size ≤ 60 ∧ g.c.depth ≤ 20) ∧ Sq K H r ws ∧ ws.all flatV = true ∧
  (∀ row : List Bool, ws = row.map V.bl → row.length = l.ins.length → ∀ (H' : Hp) (t : Addr), But3 b c s H H' → H t = none → Tri H' b c s (scanP l u row).1 → H' t = some (.tup ((scanP l u row).2.map V.bl)) → Q (.ref t) H') ∧
  (¬ (ws.length = l.ins.length ∧ ∀ v ∈ ws, isBlV v = true) → E (.ref xc.row) none H)
theorem bools_of : ∀ {ws : List V}, (∀ v ∈ ws, isBlV v = true) → ∃ row : List Bool, ws = row.map V.bl
  | [], _ => ⟨[], rfl⟩
  | v :: ws, h => by
    obtain ⟨row, e⟩ := bools_of fun u hu => h u (List.mem_cons_of_mem _ hu)
    have hv := h v List.mem_cons_self
    cases v with
    | bl b => exact ⟨b :: row, by rw [e]; rfl⟩
    | _ => cases hv
theorem disp_scan (T : TScan K mg cs cc xc cw) : DispAt P w K mg base (L2.CX P w) (fun C => C = cw) "scan" 22 ["self", "row"] (fun _ => spScan K cs cw xc) := by
  have GX_need_row : FnAt P w K mg base (L2.CX P w) "need_row" 1 _ (spNeedRow K cs xc) := ok_need_row T
  have G_act : DispAt P w K mg base CX0 (fun C => C = cw) "act" 2 ["self", "end", "holds"] (fun _ => spAct cs cw) := disp_act T
  have G_holds : DispAt P w K mg base CX0 cs.cl.has "holds" 21 ["self", "image"] (spHolds cs.cl 20) := disp_holds T.hol 20
  refine ⟨fun C hC => ?_⟩
  subst hC
  refine methAt_okX T.wk.c_Works.cl T.m_scan sc_Works_scan (fun vs H Q E h => ?_) (fun f cdv A outer st H vs Q E hr h => ?_)
  · obtain ⟨x, dx, r, b, c, s, lv, l, u, ws, rfl, _⟩ := h; rfl
  · obtain ⟨x, dx, r, b, c, s, lv, l, u, ws, rfl, hx, hl, ht, hfit, hfair, hsz, hs, hf, q, qx⟩ := h
    have hu := hu_of hr
    obtain ⟨f1, f2, f3, f4, f5, f6, f7, f8, f9⟩ := (fair_iff l).mp hfair
    refine ⟨_, (pss_cons (ps_expr (pe_callF GX_need_row hr (passX (L2.takes_of rfl rfl rfl rfl)) (pa_cons (pe_fld (pv 0) rfl) (pa_cons (pv 1) pa_nil))))
        (pss_cons (ps_for (L2.passes_of rfl) rfl (pi_zipM (by rfl) T.z_zip (pa_cons (pe_fld (pe_fld (pv 0) rfl) rfl) (pa_cons (pv 1) pa_nil))) (pg_tup rfl (pgs_cons (pg_name (i := 2) sc_Works_scan.nd rfl (by first | exact Or.inl rfl | exact Or.inr rfl)) (pgs_cons (pg_name (i := 3) sc_Works_scan.nd rfl (by first | exact Or.inl rfl | exact Or.inr rfl)) pgs_nil))) (pss_one (ps_dput hu (pe_fld (pv 0) rfl) (pv 2) (pv 3) rfl)))
        (pss_cons (ps_set (i := 4) sc_Works_scan.nd rfl (by first | exact Or.inl rfl | exact Or.inr rfl) (pe_lst pa_nil))
        (pss_cons (ps_for (L2.passes_of rfl) rfl (pi_tup (pe_fld (pe_fld (pv 0) rfl) rfl)) (pg_name (i := 5) sc_Works_scan.nd rfl (by first | exact Or.inl rfl | exact Or.inr rfl)) (pss_cons (ps_set (i := 6) sc_Works_scan.nd rfl (by first | exact Or.inl rfl | exact Or.inr rfl) (pe_methD G_holds hr pass0 (pe_fld (pv 5) rfl) (pa_cons (pe_fld (pv 0) rfl) pa_nil)))
          (pss_cons (ps_expr (pe_methD G_act hr pass0 (pv 0) (pa_cons (pe_fld (pv 5) rfl) (pa_cons (pv 6) pa_nil))))
          (pss_one (ps_expr (pe_bm PySem.F.plainAttrs_list PySem.F.slot_list_append PySem.F.type_list_append mt_append (pv 4) (pa_cons (pv 6) pa_nil)))))))
        (pss_one (ps_ret (pe_callTy call_tuple_of (by rfl) T.z_tuple (show PySem.bootBuiltins "tuple" = some (.type "tuple") by decide +kernel) (pa_cons (pv 4) pa_nil)))))))), ?_⟩
    walk_at "rd"
    refine ⟨_, rfl, x, _, dx, _, _, rfl, hx, T.wk.c_Works.cl, T.wk.nl_wk, lkW1, lv, r, l, ws, rfl, hl, hs, hf, fun hlen hbl => ?_, qx⟩
    obtain ⟨row, rfl⟩ := bools_of hbl
    rw [List.length_map] at hlen
    have q := q row rfl hlen
    clear qx
    have hne := AtW.ne ⟨dx, lv, hx⟩ ht
    obtain ⟨al, dl, ti, tt, tr, us, rfl, hal, h1, h2, h3, h4⟩ := id hl
    have kx : ∀ {H' : Hp}, But3 b c s H H' → H' x = some (.ins C dx (wkF (.ref al) b c s)) := fun k => k _ _ hx hne.1 hne.2.1 hne.2.2
    have kal : ∀ {H' : Hp}, But3 b c s H H' → H' al = _ := fun k => k.imm (T := cs.has) ht _ _ hal (.inr (.inr (.inr rfl)))
    refine ⟨_, rfl, x, _, dx, _, _, rfl, hx, T.wk.c_Works.cl, T.wk.nl_wk, lkW1, al, _, dl, _, _, rfl, hal, T.wk.lad.c_Ladder.cl, T.wk.lad.ni_ld, lkL1, _, rfl, ti, r, l.ins.map V.str, row.map V.bl, rfl, h1.seq, ?_⟩
    refine for_zipM (by rw [List.length_map, List.length_map]; omega) (fun i σ H' => ∃ v2 v3 : Option V, σ = [some (.ref x), some (.ref r), v2, v3, none, none, none] ∧ But3 b c s H H' ∧ Tri H' b c s ⟨putRow u.bits ((l.ins.zip row).take i), u.cnt, u.seen⟩) ⟨none, none, rfl, But3.refl _, ht⟩ (fun i σ H' ⟨_, _, _, k, _⟩ => k.sqT ht h1.seq) ?_ ?_ ?_
    · rcases hs with hs | hs
      · exact .inl fun i σ H' ⟨_, _, _, k, _⟩ => k.sqL ht hs
      · exact .inr fun i σ H' ⟨_, _, _, k, _⟩ => k.sqT ht hs
    · rintro i nv bv t σ H1 hn hb ⟨v2, v3, rfl, k1, t1⟩ nt
      rw [List.getElem?_map] at hn hb
      obtain ⟨n, hn', rfl⟩ := Option.map_eq_some_iff.mp hn
      obtain ⟨bb, hb', rfl⟩ := Option.map_eq_some_iff.mp hb
      have k2 := k1.trans (Same.but3 (Same.new (o := .tup [.str n, .bl bb]) nt))
      have t2 := t1.keep (Same.new (o := .tup [.str n, .bl bb]) nt)
      have htt : upd H1 t (.tup [.str n, .bl bb]) t = some (.tup [.str n, .bl bb]) := upd_same
      generalize upd H1 t (.tup [.str n, .bl bb]) = H2 at k2 t2 htt
      refine ⟨t, _, rfl, SqT.of htt, rfl, ?_⟩
      walk_at "rd"
      have hz : (l.ins.zip row)[i]? = some (n, bb) := List.getElem?_zip_eq_some.mpr ⟨hn', hb'⟩
      have hbl := (hfit.row row).bits_len
      have hkl : (putRow u.bits ((l.ins.zip row).take i)).length = u.bits.length := by
        have := congrArg List.length (putRow_keys u.bits ((l.ins.zip row).take i) (fun p hp => by
          rw [hfit.kb]
          exact List.mem_append_left _ (List.of_mem_zip (List.mem_of_mem_take hp)).1))
        rw [len_keys, len_keys] at this
        exact this
      have hub := hfit.bits_len
      refine ⟨_, rfl, _, rfl, x, _, dx, _, _, rfl, kx k2, T.wk.c_Works.cl, T.wk.nb_wk, lkW2, _, rfl, b, _, rfl, DPut.k (k := .inr n) t2.hb (by rw [dL_len, sizeLine_eq]; show (putRow _ _).length < _; omega), _, _, rfl, k2.trans But3.ub, ?_⟩
      have q2 := t2.putB (putL (putRow u.bits ((l.ins.zip row).take i)) n bb)
      rw [← dL_put] at q2
      rw [List.take_succ, hz]
      show Tri _ _ _ _ ⟨putRow u.bits ((l.ins.zip row).take i ++ [(n, bb)]), _, _⟩
      rw [putRow_snoc]
      exact q2
    rintro σ H1 ⟨v2, v3, rfl, k1, t1⟩
    rw [List.length_map, List.take_of_length_le (by rw [List.length_zip]; omega)] at t1
    walk_at "rd"
    refine ⟨Nat.zero_le _, fun p np => ?_⟩
    have k2 := k1.trans (Same.but3 (Same.new (o := .lst []) np))
    have t2 := t1.keep (Same.new (o := .lst []) np)
    have hp2 : upd H1 p (.lst []) p = some (.lst []) := upd_same
    have pn : H p = none := k1.free t1 np
    show tFor _ _ _ _ _ (upd H1 p (.lst []))
    generalize upd H1 p (.lst []) = H2 at k2 t2 hp2
    have hlen2 := h4.length
    have pb : p ≠ b := fun e => by rw [e, t2.hb] at hp2; cases hp2
    have pc : p ≠ c := fun e => by rw [e, t2.hc] at hp2; cases hp2
    have ps : p ≠ s := fun e => by rw [e, t2.hs] at hp2; cases hp2
    refine ⟨_, rfl, x, _, dx, _, _, rfl, kx k2, T.wk.c_Works.cl, T.wk.nl_wk, lkW1, al, _, dl, _, _, rfl, kal k2, T.wk.lad.c_Ladder.cl, T.wk.lad.nr_ld, lkL3, tr, rfl, ⟨_, k2.sqT ht h3.seq⟩,
      for_tup (K := K) (a := tr) (xs := us) (fun i σ H' => ∃ v5 v6 : Option V, σ = [some (.ref x), some (.ref r), v2, v3, some (.ref p), v5, v6] ∧ But3 b c s H H' ∧ Tri H' b c s (goRungs ⟨putRow u.bits (l.ins.zip row), u.cnt, u.seen⟩ (l.rs.take i)).1 ∧ H' p = some (.lst ((goRungs ⟨putRow u.bits (l.ins.zip row), u.cnt, u.seen⟩ (l.rs.take i)).2.map V.bl)))
        ⟨none, none, rfl, k2, t2, hp2⟩ (fun i σ H' _ ⟨_, _, _, k, _⟩ => k.sqT ht h3.seq) ?_ ?_⟩
    · rintro i y σ H3 hy ⟨v5, v6, rfl, k3, t3, hp3⟩
      obtain ⟨g, hg, gx, gd, gp, ge, rfl, hgx, hgp, hge⟩ := h4.at hy
      have him := k3.imm (T := cs.has) ht
      have hgm := List.mem_of_getElem? hg
      have hfi := (hfit.row row).go i
      obtain ⟨ga, gC, gdx, gfs, rfl, hga, hgC, hgl⟩ := meth_of (m := "holds") (by decide +kernel) hgp
      have hgp3 := hgp.mono (him.less fun _ q => .inl q)
      have hga3 := him _ _ hga (.inl hgC)
      have hgx3 := him _ _ hgx (.inr (.inr (.inl rfl)))
      have hbl := hfi.bits_len
      have hbk := hfi.kb
      have hcl := hfi.cnt_len
      have hsl := hfi.seen_len
      rw [List.take_succ, hg]
      generalize hG : goRungs ⟨putRow u.bits (l.ins.zip row), u.cnt, u.seen⟩ (l.rs.take i) = G at t3 hp3 hfi hbl hbk hcl hsl
      have hGl : G.2.length = (l.rs.take i).length := by rw [← hG]; exact goRungs_len _ _
      rw [List.length_take] at hGl
      show gName 5 _ _ _ fun σ2 H2 => tSeq _ _ { nx := fun σ H' => ∃ v5 v6 : Option V, σ = [some (.ref x), some (.ref r), v2, v3, some (.ref p), v5, v6] ∧ But3 b c s H H' ∧ Tri H' b c s (goRungs ⟨putRow u.bits (l.ins.zip row), u.cnt, u.seen⟩ (l.rs.take i ++ [g])).1 ∧ H' p = some (.lst ((goRungs ⟨putRow u.bits (l.ins.zip row), u.cnt, u.seen⟩ (l.rs.take i ++ [g])).2.map V.bl)), rt := Q, bk := _, ct := _ } σ2 H2
      rw [goRungs_snoc, hG]
      walk_at "rd"
      have hnd : (keysL G.1.bits).Nodup := by
        rw [hbk, List.nodup_append]
        exact ⟨f2, writ_nodup _, fun a ha b hb e => f6 a ha (by rw [e]; exact hb)⟩
      have hgood := good_bits hnd (by omega)
      refine ⟨_, rfl, gx, _, gd, _, _, rfl, hgx3, T.wk.lad.c_Rung.cl, T.wk.lad.np_rg, lkR1, ga, gC, gdx, gfs, rfl, hga3, hgC, hgl, ?_⟩
      refine ⟨_, rfl, x, _, dx, _, _, rfl, kx k3, T.wk.c_Works.cl, T.wk.nb_wk, lkW2, ga, gdx, b, gfs, g.c, dL V.bl G.1.bits, rfl, hga3, hgp3, t3.hb, hgood, (hsz g hgm).2, Nat.le_trans (hsz g hgm).1 (by decide), fun H4 s4 => ?_⟩
      have k4 := k3.trans (Same.but3 s4)
      have t4 := t3.keep s4
      have hge4 := hge.mono ((k4.imm (T := cs.has) ht).less fun _ q => .inr (.inl q))
      rw [im_bits G.1.bits G.1.cnt G.1.seen]
      refine ⟨_, rfl, x, C, dx, _, rfl, kx k4, rfl, lkWn (by decide +kernel), _, rfl, gx, _, gd, _, _, rfl, s4 _ _ hgx3, T.wk.lad.c_Rung.cl, T.wk.lad.ne_rg, lkR2, _, rfl, ?_⟩
      refine ⟨x, b, c, s, ge, g.e, g.c.holds G.1.im, G.1, rfl, ⟨dx, .ref al, kx k4⟩, t4, hge4, hfi.bit hgm, hfi.cnt hgm, hfi.seen hgm, by omega, by omega, by omega, fun H5 k5 t5 => ?_⟩
      have hp5 := k5 _ _ (s4 _ _ hp3) pb pc ps
      unfold tBM
      walk_at "rd"
      refine ⟨.inl ⟨rfl, _, SqL.of hp5⟩, p, _, _, rfl, rfl, hp5, by rw [List.length_map, sizeLine_eq]; omega, _, _, ⟨rfl, rfl⟩, (k4.trans k5).off pn, t5.off pb pc ps, ?_⟩
      rw [upd_same, List.map_append]
      rfl
    · rintro σ H3 ⟨v5, v6, rfl, k3, t3, hp3⟩
      rw [hlen2, List.take_length] at t3 hp3
      walk_at "rd"
      refine ⟨_, .inl ⟨SqL.of hp3, fun t nt => ?_⟩⟩
      exact q _ t (k3.trans (Same.but3 (Same.new nt))) (k3.free t3 nt) (t3.keep (Same.new nt)) upd_same
end

--%% NB
/-! ## the law's trees, by a pile -/
abbrev s__law_tree : Stmt := top 71
theorem sc__law_tree : FnScope ["_law_cell", "_law_many", "_law_names_here", "_law_pile", "_law_deep", "_law_k", "_law_mix", "_law_take"] ["_law_cell", "_law_many", "_law_names_here"] (defScope s__law_tree) := ⟨rfl, rfl, rfl, by decide +kernel, rfl, by decide +kernel, by decide +kernel⟩
structure TTree (K : PySem.W.Frag) (mg : Str → Option Value) : Prop where
  cells : TCells K mg
  d_tree : DefAt K mg "_law_tree" s__law_tree ["_law_cell", "_law_many", "_law_names_here"]
  z_len : mg "len" = none
  z_min : mg "min" = none
  z_max : mg "max" = none
  z_range : mg "range" = none
  z_tuple : mg "tuple" = none
/-- the pile at p, how deep each is at e -/
structure Pile (H0 H : Hp) (p e : Addr) (ws : List V) (cs : List Cond) : Prop where
  np : H0 p = none
  ne : H0 e = none
  pe : p ≠ e
  at_ : H p = some (.lst ws)
  de : H e = some (.lst (cs.map fun c => .int c.depth))
  ts : IsTs H ws cs
  ok : Cond.oks cs = true
  dp : Cond.depths cs ≤ 18
section
variable {P : Program} {w : World} {K : PySem.W.Frag} {mg : Str → Option Value} {base : Heap}
theorem depths_app : ∀ a b : List Cond, Cond.depths (a ++ b) = max (Cond.depths a) (Cond.depths b)
  | [], b => by simp [Cond.depths]
  | c :: a, b => by rw [List.cons_append, Cond.depths, Cond.depths, depths_app a b]; omega
theorem oks_app : ∀ a b : List Cond, Cond.oks (a ++ b) = (Cond.oks a && Cond.oks b)
  | [], b => by simp [Cond.oks]
  | c :: a, b => by rw [List.cons_append, Cond.oks, Cond.oks, oks_app a b, Bool.and_assoc]
def dpV (cs : List Cond) : List V := cs.map fun c => .int c.depth
theorem Pile.keep {H0 H H' : Hp} {p e : Addr} {ws : List V} {cs : List Cond} (q : Pile H0 H p e ws cs) (s : Same H H') : Pile H0 H' p e ws cs :=
  ⟨q.np, q.ne, q.pe, s _ _ q.at_, s _ _ q.de, q.ts.mono (T := fun _ => False) (Same.imm s), q.ok, q.dp⟩
theorem lst_ts {H : Hp} {p : Addr} {us ws : List V} {xs : List V} {cs : List Cond} (h : H p = some (.lst us)) (t : IsTs H ws cs) : IsTs (upd H p (.lst xs)) ws cs := t.mono (T := fun _ => False) (Imm.mut h id)
/-- the pile at p, and how deep at e, put anew -/
theorem Pile.put {H0 H : Hp} {p e : Addr} {ws us : List V} {cs ds : List Cond} (q : Pile H0 H p e ws cs) (t : IsTs H us ds) (ok : Cond.oks ds = true) (dp : Cond.depths ds ≤ 18) : Pile H0 (upd (upd H p (.lst us)) e (.lst (dpV ds))) p e us ds :=
  ⟨q.np, q.ne, q.pe, by rw [upd_ne q.pe, upd_same], upd_same, lst_ts (us := dpV cs) (by rw [upd_ne q.pe.symm]; exact q.de) (lst_ts q.at_ t), ok, dp⟩
theorem Pile.same {H0 H : Hp} {p e : Addr} {ws : List V} {cs : List Cond} {us vs : List V} (q : Pile H0 H p e ws cs) (s : Same H0 H) : Same H0 (upd (upd H p (.lst us)) e (.lst vs)) := Same.mut (Same.mut s q.np) q.ne
theorem mx_depths {cs : List Cond} {m : Int} (h : m ∈ cs.map fun c => (c.depth : Int)) (hl : ∀ y ∈ cs.map fun c => (c.depth : Int), y ≤ m) : m = (Cond.depths cs : Int) := by
  refine max_depths cs m (List.mem_cons_of_mem _ h) fun y hy => ?_
  rcases List.mem_cons.mp hy with rfl | hy
  · obtain ⟨c, _, rfl⟩ := List.mem_map.mp h
    omega
  · exact hl y hy
theorem IsTs.snoc_inv {H : Hp} {ws : List V} {ds : List Cond} {c : Cond} (h : IsTs H ws (ds ++ [c])) : ∃ us v, ws = us ++ [v] ∧ IsTs H us ds ∧ IsT H v c := by
  have h1 := h.take ds.length
  have h2 := h.drop ds.length
  rw [List.take_left] at h1
  rw [List.drop_left] at h2
  have e := List.take_append_drop ds.length ws
  generalize ws.drop ds.length = w2 at h2 e
  cases h2 with
  | cons p t => cases t; exact ⟨ws.take ds.length, _, e.symm, h1, p⟩
theorem ixN_last (us : List V) (v : V) : ixN (us ++ [v]).length (-1) = some us.length := by
  unfold ixN
  rw [List.length_append, if_neg (by decide), if_pos (by simp; omega)]
  congr 1
  simp
  omega
theorem set_last (us : List V) (v x : V) : (us ++ [v]).set us.length x = us ++ [x] := by
  induction us with
  | nil => rfl
  | cons u us ih => rw [List.cons_append, List.length_cons, List.set_cons_succ, ih, List.cons_append]
theorem dpV_snoc (cs : List Cond) (c : Cond) : dpV (cs ++ [c]) = dpV cs ++ [.int c.depth] := by rw [dpV, List.map_append]; rfl
theorem Pile.one {H0 H H5 : Hp} {p e : Addr} {ws us : List V} {cs ds : List Cond} {v : V} {c' : Cond} (q : Pile H0 H p e us ds) (h1 : H5 p = some (.lst (ws ++ [v]))) (h2 : H5 e = some (.lst (dpV cs))) (ts : IsTs H5 ws cs) (tv : IsT H5 v c') (ok : Cond.oks cs = true) (okc : c'.ok = true) (dp : Cond.depths cs ≤ 18) (d1 : c'.depth = 1) :
    Pile H0 (upd H5 e (.lst (dpV cs ++ [.int 1]))) p e (ws ++ [v]) (cs ++ [c']) :=
  ⟨q.np, q.ne, q.pe, by rw [upd_ne q.pe]; exact h1, by rw [upd_same]; show _ = some (HO.lst (dpV (cs ++ [c']))); rw [dpV_snoc, d1]; rfl, lst_ts h2 (ts.snoc tv), by rw [oks_app, ok]; simp [Cond.oks, okc], by rw [depths_app]; simp only [Cond.depths, d1]; omega⟩
def spTree : Sp := fun vs H Q _ => ∃ (c m : Int) (q : Addr) (ns : List Str), vs = [.int c, .int m, .ref q] ∧ 0 ≤ m ∧ m ≤ 59 ∧ H q = some (.lst (ns.map V.str)) ∧ ns ≠ [] ∧ (∀ n ∈ ns, isName n = true) ∧
  ∀ (H' : Hp) (v : V) (cd : Cond), Same H H' → IsT H' v cd → cd.ok = true → (cd.size : Int) ≤ m + 1 → cd.depth ≤ 19 → Q v H'
theorem ok_tree (T : TTree K mg) : FnAt P w K mg base CX0 "_law_tree" 2 ["_law_cell", "_law_many", "_law_names_here"] spTree := by
  have G__law_mixed : FnAt P w K mg base CX0 "_law_mixed" 1 _ spMixed := ok_mixed T.cells
  refine fnAt_ok T.d_tree sc__law_tree (fun vs H Q E h => ?_) (fun f cdv A outer s H vs Q E hr h => ?_)
  · obtain ⟨c, m, q, ns, rfl, _⟩ := h; rfl
  · obtain ⟨c, m, q, ns, rfl, hm0, hm, hq, hne, hok, k⟩ := h
    have hok2 := hok
    refine ⟨_, (pss_cons (ps_set (i := 3) sc__law_tree.nd rfl (by first | exact Or.inl rfl | exact Or.inr rfl) (pe_lst pa_nil))
        (pss_cons (ps_set (i := 4) sc__law_tree.nd rfl (by first | exact Or.inl rfl | exact Or.inr rfl) (pe_lst pa_nil))
        (pss_cons (ps_for PassesOwn.never rfl (pi_range1 rfl T.z_range (pa_cons (pv 1) pa_nil)) (pg_name (i := 5) sc__law_tree.nd rfl (by first | exact Or.inl rfl | exact Or.inr rfl)) (pss_cons (ps_set (i := 6) sc__law_tree.nd rfl (by first | exact Or.inl rfl | exact Or.inr rfl) (pe_callF G__law_mixed hr pass0 (pa_cons (pv 0) (pa_cons (pe_op op_add pe_int (pv 5)) pa_nil))))
          (pss_cons (ps_set (i := 7) sc__law_tree.nd rfl (by first | exact Or.inl rfl | exact Or.inr rfl) (pe_op op_add pe_int (pe_op op_mod (pe_op op_fdiv (pv 6) pe_int) (pe_callB (call_min2 rfl) (by rfl) T.z_min (by decide +kernel) (pa_cons pe_int (pa_cons (pe_callB (call_max2 rfl) (by rfl) T.z_max (by decide +kernel) (pa_cons pe_int (pa_cons (pe_op op_sub (pe_callB call_len_seq (by rfl) T.z_len PySem.boot_len (pa_cons (pv 3) pa_nil)) pe_int) pa_nil))) pa_nil))))))
          (pss_one (ps_ifG (PW.pt (pw_and (pt_cmpR op_eq (pe_op op_mod (pv 6) pe_int) pe_int (nomark _)) (pw_and (pt_cmpR (op_neE hr.units0) (pv 3) (pe_lst pa_nil) (nomark _)) (pw_and1 (pt_cmpR op_lt (pe_ix ix_list (pv 4) (pe_un un_neg pe_int) (fun _ _ => rfl)) pe_int (nomark _)))))) (pss_cons (ps_asg (pe_tup (pa_cons pe_str (pa_cons (pe_ix ix_list (pv 3) (pe_un un_neg pe_int) (fun _ _ => rfl)) pa_nil))) (pg_sub (pv 3) (pe_un un_neg pe_int) set_list))
            (pss_one (ps_asg (pe_op op_add (pe_ix ix_list (pv 4) (pe_un un_neg pe_int) (fun _ _ => rfl)) pe_int) (pg_sub (pv 4) (pe_un un_neg pe_int) set_list)))) (pss_one (ps_ifG (PW.pt (pw_and (pt_cmpR op_gt (pe_op op_mod (pv 6) pe_int) pe_int (nomark _)) (pw_and (pt_cmpR op_ge (pe_callB call_len_seq (by rfl) T.z_len PySem.boot_len (pa_cons (pv 3) pa_nil)) (pv 7) (nomark _)) (pw_and1 (pt_cmpR op_lt (pe_callB (cr_max rfl) (by rfl) T.z_max (by decide +kernel) (pa_cons (pv 4) pa_nil)) pe_int (nomark _)))))) (pss_cons (ps_set (i := 3) sc__law_tree.nd rfl (by first | exact Or.inl rfl | exact Or.inr rfl) (pe_op op_cat (pe_slice sl_list (pv 3) po_none (po_some (pe_un un_neg (pv 7)))) (pe_lst (pa_cons (pe_op op_catT (pe_tup (pa_cons (pe_ix ix_list (pe_lst (pa_cons pe_str (pa_cons pe_str pa_nil))) (pe_op op_mod (pv 6) pe_int) (fun _ _ => rfl)) pa_nil)) (pe_callTy call_tuple_of (by rfl) T.z_tuple (show PySem.bootBuiltins "tuple" = some (.type "tuple") by decide +kernel) (pa_cons (pe_slice sl_list (pv 3) (po_some (pe_un un_neg (pv 7))) po_none) pa_nil))) pa_nil))))
              (pss_one (ps_set (i := 4) sc__law_tree.nd rfl (by first | exact Or.inl rfl | exact Or.inr rfl) (pe_op op_cat (pe_slice sl_list (pv 4) po_none (po_some (pe_un un_neg (pv 7)))) (pe_lst (pa_cons (pe_op op_add pe_int (pe_callB (cr_max rfl) (by rfl) T.z_max (by decide +kernel) (pa_cons (pe_slice sl_list (pv 4) (po_some (pe_un un_neg (pv 7))) po_none) pa_nil))) pa_nil)))))) (pss_cons (ps_expr (pe_bm PySem.F.plainAttrs_list PySem.F.slot_list_append PySem.F.type_list_append mt_append (pv 3) (pa_cons (pe_tup (pa_cons pe_str (pa_cons (pe_ix ix_list (pv 2) (pe_op op_mod (pe_op op_fdiv (pv 6) pe_int) (pe_callB call_len_seq (by rfl) T.z_len PySem.boot_len (pa_cons (pv 2) pa_nil))) (fun _ _ => rfl)) pa_nil))) pa_nil)))
              (pss_cons (ps_if (pt_cmpR op_eq (pe_op op_mod (pv 6) pe_int) pe_int (nomark _)) (pss_one (ps_asg (pe_tup (pa_cons pe_str (pa_cons (pe_cmpR op_eq (pe_op op_mod (pe_op op_fdiv (pv 6) pe_int) pe_int) pe_int (nomark _)) pa_nil))) (pg_sub (pv 3) (pe_un un_neg pe_int) set_list))) pss_nil)
              (pss_one (ps_expr (pe_bm PySem.F.plainAttrs_list PySem.F.slot_list_append PySem.F.type_list_append mt_append (pv 4) (pa_cons pe_int pa_nil)))))))))))))
        (pss_cons (ps_if (pt_cmpR op_gt (pe_callB call_len_seq (by rfl) T.z_len PySem.boot_len (pa_cons (pv 3) pa_nil)) pe_int (nomark _)) (pss_one (ps_ret (pe_op op_catT (pe_tup (pa_cons (pe_ix ix_list (pe_lst (pa_cons pe_str (pa_cons pe_str pa_nil))) (pe_op op_mod (pv 0) pe_int) (fun _ _ => rfl)) pa_nil)) (pe_callTy call_tuple_of (by rfl) T.z_tuple (show PySem.bootBuiltins "tuple" = some (.type "tuple") by decide +kernel) (pa_cons (pv 3) pa_nil))))) pss_nil)
        (pss_one (ps_ret (pe_ix ix_list (pe_op op_cat (pv 3) (pe_lst (pa_cons (pe_tup (pa_cons pe_str (pa_cons (pe_ix ix_list (pv 2) pe_int (fun _ _ => rfl)) pa_nil))) pa_nil))) pe_int (fun _ _ => rfl)))))))), ?_⟩
    walk_at "rd"
    refine ⟨Nat.zero_le _, fun p np => ⟨Nat.zero_le _, fun e ne => ?_⟩⟩
    have pe : p ≠ e := fun h => by rw [h, upd_same] at ne; cases ne
    have ne0 : H e = none := (Same.new np).free ne
    have s0 : Same H (upd (upd H p (.lst [])) e (.lst [])) := (Same.new np).trans (Same.new ne)
    refine ⟨_, rfl, _, rfl, by omega, by omega, for_range (lo := 0) (n := m.toNat) (fun j σ H' => ∃ (v5 v6 v7 : Option V) (p : Addr) (e : Addr) (ws : List V) (cs : List Cond), σ = [some (.int c), some (.int m), some (.ref q), some (.ref p), some (.ref e), v5, v6, v7] ∧ Same H H' ∧ Pile H H' p e ws cs ∧ Cond.sizes cs ≤ j)
      ⟨none, none, none, p, e, [], [], rfl, s0, ⟨np, ne0, pe, by rw [upd_ne pe, upd_same], upd_same, .nil, rfl, Nat.zero_le _⟩, Nat.zero_le _⟩ ?_ ?_⟩
    · rintro j σ H1 hj ⟨v5, v6, v7, p, e, ws, cs, rfl, s1, hP, hz⟩
      have hlen := hP.ts.length
      walk_at "rd"
      refine ⟨_, _, rfl, ?_⟩
      have hx := mixed_nn c (100 + (0 + (j : Int)))
      generalize mixed c (100 + (0 + (j : Int))) = x at hx ⊢
      refine ⟨x, rfl, _, .inl (SqL.of hP.at_), 1, _, ⟨rfl, rfl⟩, 3, _, ⟨rfl, rfl⟩, by split <;> split <;> omega, ?_⟩
      obtain ⟨tk, etk, htk2, htk4⟩ : ∃ tk : Nat, (2 + x / 9 % (if (if (ws.length : Int) - 1 > 1 then (ws.length : Int) - 1 else 1) < 3 then (if (ws.length : Int) - 1 > 1 then (ws.length : Int) - 1 else 1) else 3)) = (tk : Int) ∧ 2 ≤ tk ∧ tk ≤ 4 := by
        generalize hg : (if (if (ws.length : Int) - 1 > 1 then (ws.length : Int) - 1 else 1) < 3 then (if (ws.length : Int) - 1 > 1 then (ws.length : Int) - 1 else 1) else 3) = g
        have hg1 : 1 ≤ g ∧ g ≤ 3 := by
          rw [← hg]
          split <;> split <;> omega
        have e0 := Int.emod_nonneg (x / 9) (show g ≠ 0 by omega)
        have e1 := Int.emod_lt_of_pos (x / 9) (show 0 < g by omega)
        exact ⟨(2 + x / 9 % g).toNat, by omega, by omega, by omega⟩
      rw [etk]
      have hdl : (dpV cs).length = cs.length := List.length_map ..
      refine ⟨fun b H' => Same H1 H' ∧ (b = true → ∃ ds c, cs = ds ++ [c] ∧ c.depth < 18), ?_, ?_⟩
      · walk_at "rd"
        refine ite2 (fun _ => ⟨Nat.zero_le _, fun z nz => ?_⟩) (fun _ => ⟨Same.refl _, fun h => nomatch h⟩)
        have sz := Same.new (o := .lst []) nz
        refine ⟨p, z, ws, rfl, rfl, SqL.of (sz _ _ hP.at_), SqL.of upd_same, _, rfl, ?_⟩
        rcases List.eq_nil_or_concat cs with hc | ⟨ds, c', hc⟩
        · subst hc
          rw [List.length_eq_zero_iff.mp hlen]
          exact iteF ⟨sz, fun h => nomatch h⟩
        · rw [List.concat_eq_append] at hc
          have hwe : ws.isEmpty = false := by
            cases ws with
            | nil => rw [hc] at hlen; simp at hlen
            | cons => rfl
          rw [hwe]
          refine iteT ⟨1, rfl, e, dpV cs, -1, .int c'.depth, rfl, rfl, SqL.of (sz _ _ hP.de), ?_, _, rfl, sz, fun h => ⟨ds, c', hc, by have := of_decide_eq_true h; omega⟩⟩
          rw [dpV, hc, List.map_append]
          exact atI_last _ _
      rintro b H2 ⟨s2, hb⟩
      have hP2 := hP.keep s2
      cases b with
      | true =>
        rw [if_pos rfl]
        obtain ⟨ds, c', hc, hcd⟩ := hb rfl
        subst hc
        obtain ⟨us, v, rfl, pu, pv⟩ := hP2.ts.snoc_inv
        have hok := hP2.ok
        have hdp := hP2.dp
        rw [oks_app, Bool.and_eq_true] at hok
        rw [depths_app] at hdp
        rw [sizes_app] at hz
        walk_at "rd"
        refine ⟨1, rfl, p, _, -1, v, rfl, rfl, SqL.of hP2.at_, atI_last _ _, line_ge (by simp), fun t nt => ?_⟩
        have st := Same.new (o := .tup [.str "not", v]) nt
        have hP3 := hP2.keep st
        have pt : IsTs (upd H2 t (.tup [.str "not", v])) (us ++ [.ref t]) (ds ++ [.not c']) := (pu.mono (T := fun _ => False) (Same.imm st)).snoc (.not upd_same (pv.mono (T := fun _ => False) (Same.imm st)))
        have s3 := (s1.trans s2).trans st
        generalize upd H2 t (.tup [.str "not", v]) = H3 at hP3 pt s3 ⊢
        refine ⟨_, rfl, 1, rfl, p, _, -1, us.length, rfl, rfl, hP3.at_, ixN_last _ _, ?_⟩
        rw [set_last]
        have hde : upd H3 p (.lst (us ++ [.ref t])) e = some (.lst (dpV ds ++ [.int c'.depth])) := by rw [upd_ne hP3.pe.symm, hP3.de]; exact congrArg _ (congrArg _ (dpV_snoc _ _))
        walk_at "rd"
        refine ⟨1, rfl, e, _, -1, .int c'.depth, rfl, rfl, SqL.of hde, atI_last _ _, _, rfl, ?_⟩
        refine ⟨_, rfl, 1, rfl, e, _, -1, (dpV ds).length, rfl, rfl, hde, ixN_last _ _, ?_⟩
        rw [set_last]
        have e1 : dpV ds ++ [V.int ((c'.depth : Int) + 1)] = dpV (ds ++ [.not c']) := by
          rw [dpV_snoc, Cond.depth]
          congr 2
        rw [e1]
        have hP4 := hP3.put pt (by rw [oks_app, hok.1, Bool.true_and]; exact hok.2) (by rw [depths_app]; simp only [Cond.depths, Cond.depth] at hdp ⊢; omega)
        exact ⟨_, _, _, p, e, rfl, hP3.same s3, _, _, hP4, by rw [sizes_app]; simp only [Cond.sizes, Cond.size] at hz ⊢; omega⟩
      | false =>
        rw [if_neg Bool.false_ne_true]
        clear hb
        refine ⟨fun b H' => Same H2 H' ∧ (b = true → tk ≤ ws.length ∧ Cond.depths cs < 18), ?_, ?_⟩
        · walk_at "rd"
          refine ite2 (fun _ => ⟨_, .inl (SqL.of hP2.at_), ite2 (fun hk => ?_) (fun _ => ⟨Same.refl _, False.elim⟩)⟩) (fun _ => ⟨Same.refl _, False.elim⟩)
          have hk := of_decide_eq_true hk
          refine ⟨e, cs.map fun c => (c.depth : Int), rfl, SqL.of ?_, by rw [List.length_map]; omega, fun mx hm hl => ⟨mx, rfl, Same.refl _, fun h => ⟨by omega, ?_⟩⟩⟩
          · rw [hP2.de, List.map_map]
            rfl
          · have := of_decide_eq_true h
            have e2 := mx_depths hm hl
            omega
        rintro b H3 ⟨s3, hb⟩
        have hP3 := hP2.keep s3
        have s13 := (s1.trans s2).trans s3
        cases b with
        | true =>
          rw [if_pos rfl]
          obtain ⟨hk1, hk2⟩ := hb rfl
          have hwl : ws.length ≤ 1000 := by
            have := Cond.len_sizes cs
            omega
          walk_at "rd"
          refine ⟨_, rfl, tk, rfl, _, rfl, p, ws, rfl, SqL.of hP3.at_, fun p2 n2 => ?_⟩
          rw [cutV_neg_to ws tk (by omega) hk1]
          have q2 := Same.new (o := .lst (ws.take (ws.length - tk))) n2
          have hp2 : upd H3 p2 (.lst (ws.take (ws.length - tk))) p2 = _ := upd_same
          generalize upd H3 p2 (.lst (ws.take (ws.length - tk))) = H4 at q2 hp2 ⊢
          refine ⟨line_ge (by simp), fun p3 n3 => ?_⟩
          obtain ⟨y, hy, hya⟩ := atI_ex (xs := [V.str "and", V.str "or"]) (i := x % 2) (Int.emod_nonneg _ (by decide)) (Int.emod_lt_of_pos _ (by decide))
          obtain ⟨b, rfl⟩ : ∃ b, y = .str (word b) := by
            simp only [List.mem_cons, List.not_mem_nil, or_false] at hy
            rcases hy with rfl | rfl
            · exact ⟨true, rfl⟩
            · exact ⟨false, rfl⟩
          have q3 := Same.new (o := .lst [.str "and", .str "or"]) n3
          refine ⟨p3, _, _, _, rfl, rfl, SqL.of upd_same, hya, line_ge (by simp), fun p4 n4 => ?_⟩
          have q4 := (q2.trans q3).trans (Same.new (o := .tup [.str (word b)]) n4)
          have r4 := q3.trans (Same.new (o := .tup [.str (word b)]) n4)
          have hp4 : upd (upd H4 p3 (.lst [.str "and", .str "or"])) p4 (.tup [.str (word b)]) p4 = _ := upd_same
          have hp2' := r4 _ _ hp2
          generalize upd (upd H4 p3 (.lst [.str "and", .str "or"])) p4 (.tup [.str (word b)]) = H5 at q4 hp4 hp2' ⊢
          refine ⟨_, rfl, tk, rfl, _, rfl, p, ws, rfl, SqL.of (q4 _ _ hP3.at_), fun p5 n5 => ⟨p5, rfl, _, .inl ⟨SqL.of upd_same, fun p6 n6 => ?_⟩⟩⟩
          rw [cutV_neg_from ws tk (by omega) hk1] at n6 ⊢
          have hdl2 : (ws.drop (ws.length - tk)).length = tk := by rw [List.length_drop]; omega
          have r6 := (Same.new (o := .lst (ws.drop (ws.length - tk))) n5).trans (Same.new (o := .tup (ws.drop (ws.length - tk))) n6)
          refine ⟨p4, p6, [.str (word b)], ws.drop (ws.length - tk), rfl, rfl, SqT.of (r6 _ _ hp4), SqT.of upd_same, by simp, line_ge (by simp; omega), fun e => ?_, fun _ p7 n7 => ⟨line_ge (by simp), fun p8 n8 => ?_⟩⟩
          · rw [e] at hdl2
            simp at hdl2
            omega
          have r8 := (r6.trans (Same.new (o := .tup ([.str (word b)] ++ ws.drop (ws.length - tk))) n7)).trans (Same.new (o := .lst [.ref p7]) n8)
          have hp7 := Same.new (o := .lst [.ref p7]) n8 _ _ (upd_same (H := upd (upd H5 p5 (.lst (ws.drop (ws.length - tk)))) p6 (.tup (ws.drop (ws.length - tk)))) (a := p7) (o := .tup ([.str (word b)] ++ ws.drop (ws.length - tk))))
          have hp8 : upd (upd (upd (upd H5 p5 (.lst (ws.drop (ws.length - tk)))) p6 (.tup (ws.drop (ws.length - tk)))) p7 (.tup ([.str (word b)] ++ ws.drop (ws.length - tk)))) p8 (.lst [.ref p7]) p8 = _ := upd_same
          generalize upd (upd (upd (upd H5 p5 (.lst (ws.drop (ws.length - tk)))) p6 (.tup (ws.drop (ws.length - tk)))) p7 (.tup ([.str (word b)] ++ ws.drop (ws.length - tk)))) p8 (.lst [.ref p7]) = H6 at r8 hp7 hp8 ⊢
          refine ⟨p2, p8, _, _, rfl, rfl, r8 _ _ hp2', hp8, line_ge (by simp; omega), fun p9 n9 => ?_⟩
          have q9 := (q4.trans r8).trans (Same.new (o := .lst (ws.take (ws.length - tk) ++ [.ref p7])) n9)
          have nn9 : H p9 = none := (s13.trans (q4.trans r8)).free n9
          have hp9 : upd H6 p9 (.lst (ws.take (ws.length - tk) ++ [.ref p7])) p9 = _ := upd_same
          have hp7' := Same.new (o := .lst (ws.take (ws.length - tk) ++ [.ref p7])) n9 _ _ hp7
          generalize upd H6 p9 (.lst (ws.take (ws.length - tk) ++ [.ref p7])) = H7 at q9 hp9 hp7' ⊢
          have hP7 := hP3.keep q9
          have kd : tk ≤ (dpV cs).length := by rw [hdl]; omega
          refine ⟨_, rfl, tk, rfl, _, rfl, e, dpV cs, rfl, SqL.of hP7.de, fun p10 n10 => ?_⟩
          rw [cutV_neg_to (dpV cs) tk (by omega) kd]
          have q10 := Same.new (o := .lst ((dpV cs).take ((dpV cs).length - tk))) n10
          have hp10 : upd H7 p10 (.lst ((dpV cs).take ((dpV cs).length - tk))) p10 = _ := upd_same
          generalize upd H7 p10 (.lst ((dpV cs).take ((dpV cs).length - tk))) = H8 at q10 hp10 ⊢
          refine ⟨_, rfl, tk, rfl, _, rfl, e, dpV cs, rfl, SqL.of (q10 _ _ hP7.de), fun p11 n11 => ?_⟩
          rw [cutV_neg_from (dpV cs) tk (by omega) kd]
          have ed : (dpV cs).drop ((dpV cs).length - tk) = ((cs.drop (cs.length - tk)).map fun c => (c.depth : Int)).map V.int := by
            rw [hdl, dpV, List.map_drop, List.map_drop, List.map_map]
            rfl
          refine ⟨p11, (cs.drop (cs.length - tk)).map fun c => (c.depth : Int), rfl, SqL.of (by rw [upd_same, ed]), by rw [List.length_map, List.length_drop]; omega, fun mx hmx hml => ⟨_, rfl, line_ge (by simp), fun p12 n12 => ?_⟩⟩
          have em := mx_depths hmx hml
          have q11 := Same.new (o := .lst ((dpV cs).drop ((dpV cs).length - tk))) n11
          have q12 := q11.trans (Same.new (o := .lst [.int (1 + mx)]) n12)
          have hp12 : upd (upd H8 p11 (.lst ((dpV cs).drop ((dpV cs).length - tk)))) p12 (.lst [.int (1 + mx)]) p12 = _ := upd_same
          generalize upd (upd H8 p11 (.lst ((dpV cs).drop ((dpV cs).length - tk)))) p12 (.lst [.int (1 + mx)]) = H9 at q12 hp12 ⊢
          refine ⟨p10, p12, _, _, rfl, rfl, q12 _ _ hp10, hp12, line_ge (by simp; omega), fun p13 n13 => ?_⟩
          have q7 := (q10.trans q12)
          have n13' : H p13 = none := (s13.trans (q9.trans q7)).free n13
          have ne13 : p9 ≠ p13 := ne_of_none (q7 _ _ hp9) n13
          have q13 := q7.trans (Same.new (o := .lst ((dpV cs).take ((dpV cs).length - tk) ++ [.int (1 + mx)])) n13)
          have hd13 : upd H9 p13 (.lst ((dpV cs).take ((dpV cs).length - tk) ++ [.int (1 + mx)])) p13 = _ := upd_same
          generalize upd H9 p13 (.lst ((dpV cs).take ((dpV cs).length - tk) ++ [.int (1 + mx)])) = Hz at q13 hd13 ⊢
          have ept : ∀ l : List Cond, (l.take (l.length - tk)) ++ l.drop (l.length - tk) = l := fun l => List.take_append_drop _ _
          have hok := hP7.ok
          rw [← ept cs, oks_app, Bool.and_eq_true] at hok
          have hdp := hk2
          rw [← ept cs, depths_app] at hdp
          have hsz := hz
          rw [← ept cs, sizes_app] at hsz
          have tz := hP7.ts.mono (T := fun _ => False) (Same.imm q13)
          have lc : (cs.drop (cs.length - tk)).length = tk := by rw [List.length_drop]; omega
          have hgrp : IsT Hz (.ref p7) (.grp b (cs.drop (cs.length - tk))) := .grp (q13 _ _ hp7') (by rw [← hlen]; exact tz.drop _)
          refine ⟨_, _, _, p9, p13, ⟨rfl, rfl, rfl, rfl, rfl⟩, s13.trans (q9.trans q13), _, cs.take (cs.length - tk) ++ [.grp b (cs.drop (cs.length - tk))], ⟨nn9, n13', ne13, q13 _ _ hp9, ?_, ?_, ?_, ?_⟩, ?_⟩
          · rw [hd13]
            show _ = some (HO.lst (dpV (cs.take (cs.length - tk) ++ [.grp b (cs.drop (cs.length - tk))])))
            rw [dpV_snoc, hdl]
            congr 3
            · rw [dpV, dpV, List.map_take]
            · rw [Cond.depth, em]
              congr 2
              omega
          · have := (tz.take (ws.length - tk)).snoc hgrp
            rw [hlen] at this ⊢
            exact this
          · rw [oks_app, hok.1]
            simp only [Cond.oks, Cond.ok, lc, hok.2, Bool.and_true, Bool.true_and, decide_eq_true_eq]
            exact htk2
          · rw [depths_app]
            simp only [Cond.depths, Cond.depth]
            omega
          · rw [sizes_app]
            simp only [Cond.sizes, Cond.size]
            omega
        | false =>
          rw [if_neg Bool.false_ne_true]
          have hnl : 0 < ns.length := by
            cases ns with
            | nil => exact absurd rfl hne
            | cons => simp
          have hwl : ws.length ≤ 1000 := by
            have := Cond.len_sizes cs
            omega
          walk_at "rd"
          unfold tBM
          walk_at "rd"
          have hq3 := s13 _ _ hq
          obtain ⟨y, hy, hya⟩ := atI_ex (xs := ns.map V.str) (i := x / 9 % (ns.length : Int)) (Int.emod_nonneg _ (by omega)) (by rw [List.length_map]; exact Int.emod_lt_of_pos _ (by omega))
          obtain ⟨nm, hnm, rfl⟩ := List.mem_map.mp hy
          refine ⟨.inl ⟨rfl, _, SqL.of hP3.at_⟩, _, .inl (SqL.of hq3), by rw [List.length_map]; omega, q, _, _, .str nm, rfl, rfl, SqL.of hq3, by rw [List.length_map]; exact hya, line_ge (by simp), fun t nt => ?_⟩
          have st := Same.new (o := .tup [.str "contact", .str nm]) nt
          have hP4 := hP3.keep st
          have ht : upd H3 t (.tup [.str "contact", .str nm]) t = _ := upd_same
          have s4 := s13.trans st
          generalize upd H3 t (.tup [.str "contact", .str nm]) = H4 at st hP4 ht s4 ⊢
          refine ⟨p, ws, _, rfl, rfl, hP4.at_, by rw [sizeLine_eq]; omega, ?_⟩
          have hok := hP4.ok
          have hdp := hP4.dp
          have m5 : Imm (fun _ => False) H4 (upd H4 p (.lst (ws ++ [.ref t]))) := Imm.mut hP4.at_ id
          have he5 : upd H4 p (.lst (ws ++ [.ref t])) e = some (.lst (dpV cs)) := by rw [upd_ne hP4.pe.symm]; exact hP4.de
          have t5 := hP4.ts.mono m5
          have s5 : Same H (upd H4 p (.lst (ws ++ [.ref t]))) := Same.mut s4 hP4.np
          have ht5 := m5 _ _ ht trivial
          have hp5 : upd H4 p (.lst (ws ++ [.ref t])) p = some (.lst (ws ++ [.ref t])) := upd_same
          generalize upd H4 p (.lst (ws ++ [.ref t])) = H5 at m5 he5 t5 s5 ht5 hp5 ⊢
          refine ite2 (fun _ => ?_) (fun _ => ?_)
          · refine ⟨line_ge (by simp), fun t2 n2 => ?_⟩
            have u2 := Same.new (o := .tup [.str "fixed", .bl (decide (x / 9 % 2 = 1))]) n2
            refine ⟨_, rfl, 1, rfl, p, _, -1, ws.length, rfl, rfl, u2 _ _ hp5, ixN_last _ _, ?_⟩
            rw [set_last]
            have m6 : Imm (fun _ => False) (upd H5 t2 (.tup [.str "fixed", .bl (decide (x / 9 % 2 = 1))])) (upd (upd H5 t2 (.tup [.str "fixed", .bl (decide (x / 9 % 2 = 1))])) p (.lst (ws ++ [.ref t2]))) := Imm.mut (u2 _ _ hp5) id
            have he6 : upd (upd H5 t2 (.tup [.str "fixed", .bl (decide (x / 9 % 2 = 1))])) p (.lst (ws ++ [.ref t2])) e = some (.lst (dpV cs)) := by rw [upd_ne hP4.pe.symm]; exact u2 _ _ he5
            have ht6 := m6 t2 (.tup [.str "fixed", .bl (decide (x / 9 % 2 = 1))]) upd_same trivial
            have t6 := (t5.mono (T := fun _ => False) (Same.imm u2)).mono m6
            have s6 : Same H (upd (upd H5 t2 (.tup [.str "fixed", .bl (decide (x / 9 % 2 = 1))])) p (.lst (ws ++ [.ref t2]))) := Same.mut (s5.trans u2) hP4.np
            have hp6 : upd (upd H5 t2 (.tup [.str "fixed", .bl (decide (x / 9 % 2 = 1))])) p (.lst (ws ++ [.ref t2])) p = some (.lst (ws ++ [.ref t2])) := upd_same
            generalize upd (upd H5 t2 (.tup [.str "fixed", .bl (decide (x / 9 % 2 = 1))])) p (.lst (ws ++ [.ref t2])) = H6 at he6 ht6 t6 s6 hp6 ⊢
            refine ⟨_, rfl, .inl ⟨rfl, _, SqL.of he6⟩, e, _, _, rfl, rfl, he6, by rw [hdl, sizeLine_eq]; omega, ?_⟩
            exact ⟨_, _, _, p, e, rfl, Same.mut s6 hP4.ne, _, _, hP4.one hp6 he6 t6 (.fixed ht6) hok rfl hdp (by rw [Cond.depth]), by rw [sizes_app]; simp only [Cond.sizes, Cond.size]; omega⟩
          · refine ⟨.inl ⟨rfl, _, SqL.of he5⟩, e, _, _, rfl, rfl, he5, by rw [hdl, sizeLine_eq]; omega, ?_⟩
            exact ⟨_, _, _, p, e, ⟨rfl, rfl, rfl, rfl, rfl⟩, Same.mut s5 hP4.ne, _, _, hP4.one hp5 he5 t5 (.contact ht5) hok (hok2 nm hnm) hdp (by rw [Cond.depth]), by rw [sizes_app]; simp only [Cond.sizes, Cond.size]; omega⟩
    · rintro σ H1 ⟨v5, v6, v7, p, e, ws, cs, rfl, s1, hP, hz⟩
      have hlen := hP.ts.length
      have hwl : ws.length ≤ 1000 := by
        have := Cond.len_sizes cs
        omega
      walk_at "rd"
      refine ⟨_, .inl (SqL.of hP.at_), ite2 (fun h1 => ⟨line_ge (by simp), fun p1 n1 => ?_⟩) (fun h1 => ?_)⟩
      · have h1 := of_decide_eq_true h1
        obtain ⟨y, hy, hya⟩ := atI_ex (xs := [V.str "and", V.str "or"]) (i := c % 2) (Int.emod_nonneg _ (by decide)) (Int.emod_lt_of_pos _ (by decide))
        obtain ⟨b, rfl⟩ : ∃ b, y = .str (word b) := by
          simp only [List.mem_cons, List.not_mem_nil, or_false] at hy
          rcases hy with rfl | rfl
          · exact ⟨true, rfl⟩
          · exact ⟨false, rfl⟩
        have q1 := Same.new (o := .lst [.str "and", .str "or"]) n1
        refine ⟨p1, _, _, _, rfl, rfl, SqL.of upd_same, hya, line_ge (by simp), fun p2 n2 => ?_⟩
        have q2 := q1.trans (Same.new (o := .tup [.str (word b)]) n2)
        have hp2 : upd (upd H1 p1 (.lst [.str "and", .str "or"])) p2 (.tup [.str (word b)]) p2 = _ := upd_same
        generalize upd (upd H1 p1 (.lst [.str "and", .str "or"])) p2 (.tup [.str (word b)]) = H2 at q2 hp2 ⊢
        refine ⟨_, .inl ⟨SqL.of (q2 _ _ hP.at_), fun p3 n3 => ?_⟩⟩
        have q3 := Same.new (o := .tup ws) n3
        have hwn : ws ≠ [] := by intro e; rw [e] at h1; simp at h1
        refine ⟨p2, p3, [.str (word b)], ws, rfl, rfl, SqT.of (q3 _ _ hp2), SqT.of upd_same, by simp, line_ge (by simp; omega), fun e => absurd e hwn, fun _ p4 n4 => ?_⟩
        have q4 := (q2.trans q3).trans (Same.new (o := .tup ([.str (word b)] ++ ws)) n4)
        refine k _ _ (.grp b cs) (s1.trans q4) (.grp upd_same (hP.ts.mono (T := fun _ => False) (Same.imm q4))) ?_ ?_ ?_
        · rw [Cond.ok, hP.ok, decide_eq_true (by omega)]
          rfl
        · rw [Cond.size]
          omega
        · have := hP.dp
          rw [Cond.depth]
          omega
      · have h1 : ¬ (1 : Int) < (ws.length : Int) := fun h => h1 (decide_eq_true h)
        obtain ⟨n0, nr, ens⟩ : ∃ n0 nr, ns = n0 :: nr := by
          cases ns with
          | nil => exact absurd rfl hne
          | cons x y => exact ⟨x, y, rfl⟩
        refine ⟨q, _, 0, .str n0, rfl, rfl, SqL.of (s1 _ _ hq), atI_int (by decide) (by rw [ens]; rfl), line_ge (by simp), fun p1 n1 => ⟨line_ge (by simp), fun p2 n2 => ?_⟩⟩
        have q1 := Same.new (o := .tup [.str "contact", .str n0]) n1
        have q2 := q1.trans (Same.new (o := .lst [.ref p1]) n2)
        have h2 : upd (upd H1 p1 (.tup [.str "contact", .str n0])) p2 (.lst [.ref p1]) p2 = _ := upd_same
        have hp1 := Same.new (o := .lst [.ref p1]) n2 p1 (.tup [.str "contact", .str n0]) upd_same
        generalize upd (upd H1 p1 (.tup [.str "contact", .str n0])) p2 (.lst [.ref p1]) = H2 at q2 h2 hp1 ⊢
        refine ⟨p, p2, ws, [.ref p1], rfl, rfl, q2 _ _ hP.at_, h2, line_ge (by simp; omega), fun p3 n3 => ?_⟩
        have q3 := Same.new (o := .lst (ws ++ [.ref p1])) n3
        have q13 := q2.trans q3
        have tz := hP.ts.mono (T := fun _ => False) (Same.imm q13)
        have ok := hP.ok
        have dp := hP.dp
        cases tz with
        | nil =>
          refine ⟨p3, _, 0, .ref p1, rfl, rfl, SqL.of upd_same, rfl, ?_⟩
          exact k _ _ (.contact n0) (s1.trans q13) (.contact (q3 _ _ hp1)) (hok n0 (by rw [ens]; simp)) (by rw [Cond.size]; omega) (by rw [Cond.depth]; omega)
        | @cons v vs c' cs' pv pr =>
          refine ⟨p3, _, 0, v, rfl, rfl, SqL.of upd_same, atI_int (by decide) rfl, ?_⟩
          have := pr.length
          simp only [List.length_cons] at h1
          have hv : cs' = [] := by
            cases cs' with
            | nil => rfl
            | cons => rw [List.length_cons] at this; omega
          subst hv
          simp only [Cond.oks, Cond.depths, Cond.sizes, Bool.and_true] at ok dp hz
          exact k _ _ c' (s1.trans q13) pv ok (by omega) (by omega)
end

--%% NC0
/-! ## three dicts -/
def NoD (H H' : Hp) : Prop := ∀ a o, H a = some o → (∀ kvs, o ≠ .dK kvs) → H' a = some o
theorem Same.noD {H H' : Hp} (s : Same H H') : NoD H H' := fun a o e _ => s a o e
theorem NoD.trans {H H1 H2 : Hp} (k : NoD H H1) (j : NoD H1 H2) : NoD H H2 := fun a o e n => j a o (k a o e n) n
theorem NoD.imm {T : Addr → Prop} {H H' : Hp} (k : NoD H H') : Imm T H H' := fun a o e i => k a o e (fun kvs q => by subst q; exact i)
theorem But3.noD {H H' : Hp} {b c s : Addr} {w : Ws} (k : But3 b c s H H') (t : Tri H b c s w) : NoD H H' := fun a o e n => k a o e
  (fun q => by rw [q, t.hb] at e; cases e; exact n _ rfl) (fun q => by rw [q, t.hc] at e; cases e; exact n _ rfl) (fun q => by rw [q, t.hs] at e; cases e; exact n _ rfl)
theorem NoD.lst {H H' : Hp} {a : Addr} {xs : List V} (k : NoD H H') (h : H a = some (.lst xs)) : H' a = some (.lst xs) := k _ _ h (fun _ q => by cases q)
theorem NoD.tup {H H' : Hp} {a : Addr} {xs : List V} (k : NoD H H') (h : H a = some (.tup xs)) : H' a = some (.tup xs) := k _ _ h (fun _ q => by cases q)
section
/-- three dicts under way, made where H0 stood -/
structure Wd (H0 H : Hp) (b c s : Addr) (w : Ws) : Prop where
  same : Same H0 H
  tri : Tri H b c s w
  nb : H0 b = none
  nc : H0 c = none
  ns : H0 s = none
theorem Wd.putB {H0 H : Hp} {b c s : Addr} {w : Ws} (i : Wd H0 H b c s w) (l : List (Str × Bool)) : Wd H0 (upd H b (.dK (dL V.bl l))) b c s ⟨l, w.cnt, w.seen⟩ := ⟨Same.mut i.same i.nb, i.tri.putB l, i.nb, i.nc, i.ns⟩
theorem Wd.putC {H0 H : Hp} {b c s : Addr} {w : Ws} (i : Wd H0 H b c s w) (l : List (Str × Int)) : Wd H0 (upd H c (.dK (dL V.int l))) b c s ⟨w.bits, l, w.seen⟩ := ⟨Same.mut i.same i.nc, i.tri.putC l, i.nb, i.nc, i.ns⟩
theorem Wd.putS {H0 H : Hp} {b c s : Addr} {w : Ws} (i : Wd H0 H b c s w) (l : List (Str × Bool)) : Wd H0 (upd H s (.dK (dL V.bl l))) b c s ⟨w.bits, w.cnt, l⟩ := ⟨Same.mut i.same i.ns, i.tri.putS l, i.nb, i.nc, i.ns⟩
theorem Wd.keep {H0 H H' : Hp} {b c s : Addr} {w : Ws} (i : Wd H0 H b c s w) (k : Same H H') : Wd H0 H' b c s w := ⟨i.same.trans k, i.tri.keep k, i.nb, i.nc, i.ns⟩
end

/-! ## works: kept, put back -/
abbrev s_Works_kept : Stmt := inClass (top 27) 8
theorem sc_Works_kept : FnScope ["self", "bits", "name"] ["self"] (defScope s_Works_kept) := ⟨rfl, rfl, rfl, by decide +kernel, rfl, by decide +kernel, by decide +kernel⟩
abbrev s_Works_put_back : Stmt := inClass (top 27) 9
theorem sc_Works_put_back : FnScope ["self", "kept", "name"] ["self", "kept"] (defScope s_Works_put_back) := ⟨rfl, rfl, rfl, by decide +kernel, rfl, by decide +kernel, by decide +kernel⟩
structure TKept (K : PySem.W.Frag) (mg : Str → Option Value) (cs : Cs) (cc : Addr) (xc : Xc) (cw : Addr) : Prop where
  wk : TWorks K mg cs cc xc cw
  m_kept : MethAt K cw "kept" "Works.kept" s_Works_kept ["self"]
  m_put_back : MethAt K cw "put_back" "Works.put_back" s_Works_put_back ["self", "kept"]
  z_dict : mg "dict" = none
def wbits (l : Lad) (u : Ws) : List (Str × Bool) := (writ l.rs).map fun n => (n, u.bitOf n)
theorem wbits_keys (l : Lad) (u : Ws) : keysL (wbits l u) = writ l.rs := by simp [keysL, wbits, Function.comp_def]
/-- what is kept of works -/
def keptW (l : Lad) (u : Ws) : Ws := ⟨wbits l u, u.cnt, u.seen⟩
/-- works put back to what was kept -/
def backW (l : Lad) (k : Ws) : Ws := ⟨(l.ins.map fun n => (n, false)) ++ k.bits, k.cnt, k.seen⟩
structure KFits (l : Lad) (k : Ws) : Prop where
  kb : keysL k.bits = writ l.rs
  kc : keysL k.cnt = keysL (cnt0 l.rs)
  ks : keysL k.seen = keysL (seen0 l.rs)
theorem keptW_fits {l : Lad} {u : Ws} (f : Fits l u) : KFits l (keptW l u) := ⟨wbits_keys l u, f.kc, f.ks⟩
theorem backW_fits {l : Lad} {k : Ws} (f : KFits l k) : Fits l (backW l k) := ⟨by
  show keysL ((l.ins.map fun n => (n, false)) ++ k.bits) = _
  rw [keysL, List.map_append, show k.bits.map (·.1) = writ l.rs from f.kb]
  simp [Function.comp_def], f.kc, f.ks⟩
theorem map_take_snocB {ns : List Str} {i : Nat} {n : Str} {g : Str → Bool} (h : ns[i]? = some n) (hn : ns.Nodup) : putL ((ns.take i).map fun n => (n, g n)) n (g n) = (ns.take (i + 1)).map fun n => (n, g n) := by
  rw [keys_new, List.take_succ, h, List.map_append]
  · rfl
  · intro hm
    have hk : n ∈ ns.take i := by
      obtain ⟨p, hp, e⟩ := List.mem_map.mp hm
      obtain ⟨q, hq, rfl⟩ := List.mem_map.mp hp
      rw [← e]
      exact hq
    have hsp : ns.take i ++ ns.drop i = ns := List.take_append_drop i ns
    obtain ⟨hi, hg⟩ := List.getElem?_eq_some_iff.mp h
    rw [← hsp, List.nodup_append] at hn
    exact hn.2.2 n hk n (by rw [List.drop_eq_getElem_cons hi, hg]; exact List.mem_cons_self) rfl
theorem cnt0_nodup (rs : List Rg) : (keysL (cnt0 rs)).Nodup := writ_ind (p := fun rs => (keysL (cnt0 rs)).Nodup) (by simp [cnt0, keysL]) (fun rs r ih => by
  rw [cnt0_snoc]
  split
  · by_cases h : r.e.n ∈ keysL (cnt0 rs)
    · rw [keys_put h]
      exact ih
    · rw [keys_put_new h, List.nodup_append]
      exact ⟨ih, by simp, fun a ha b hb e => h (by rw [List.mem_singleton.mp hb] at e; rw [← e]; exact ha)⟩
  · exact ih) rs
theorem seen0_nodup (rs : List Rg) : (keysL (seen0 rs)).Nodup := writ_ind (p := fun rs => (keysL (seen0 rs)).Nodup) (by simp [seen0, keysL]) (fun rs r ih => by
  rw [seen0_snoc]
  split
  · by_cases h : r.e.n ∈ keysL (seen0 rs)
    · rw [keys_put h]
      exact ih
    · rw [keys_put_new h, List.nodup_append]
      exact ⟨ih, by simp, fun a ha b hb e => h (by rw [List.mem_singleton.mp hb] at e; rw [← e]; exact ha)⟩
  · exact ih) rs
section
variable {P : Program} {w : World} {K : PySem.W.Frag} {mg : Str → Option Value} {base : Heap} {cs : Cs} {cc : Addr} {xc : Xc} {cw : Addr}
def spKept (K : PySem.W.Frag) (cs : Cs) (cw : Addr) : Sp := fun vs H Q _ => ∃ (x dx b c s : Addr) (lv : V) (u : Ws) (l : Lad), vs = [.ref x] ∧ H x = some (.ins cw dx (wkF lv b c s)) ∧ IsL K cs H lv l ∧ Tri H b c s u ∧ Fits l u ∧ l.fair = true ∧
  ∀ (H' : Hp) (t b' c' s' : Addr), Wd H H' b' c' s' (keptW l u) → H t = none → H' t = some (.tup [.ref b', .ref c', .ref s']) → Q (.ref t) H'
theorem disp_kept (T : TKept K mg cs cc xc cw) : DispAt P w K mg base CX0 (fun C => C = cw) "kept" 2 ["self"] (fun _ vs H Q _ => spKept K cs cw vs H Q E0) := by
  have G_written_names : DispAt P w K mg base CX0 (fun C => C = cs.ld) "written_names" 1 ["self"] (fun _ => spWrit K cs) := disp_written T.wk.lad
  refine ⟨fun C hC => ?_⟩
  subst hC
  refine methAt_ok T.wk.c_Works.cl T.m_kept sc_Works_kept (fun vs H Q E h => ?_) (fun f cdv A outer st H vs Q E hr h => ?_)
  · obtain ⟨x, dx, b, c, s, lv, u, l, rfl, _⟩ := h; rfl
  · obtain ⟨x, dx, b, c, s, lv, u, l, rfl, hx, hl, ht, hfit, hfair, k⟩ := h
    have hu := hu_of hr
    obtain ⟨f1, f2, f3, f4, f5, f6, f7, f8, f9⟩ := (fair_iff l).mp hfair
    refine ⟨_, (pss_cons (ps_set (i := 1) sc_Works_kept.nd rfl (by first | exact Or.inl rfl | exact Or.inr rfl) pe_dnewK)
        (pss_cons (ps_for PassesOwn.never rfl (pi_tup (pe_methD0 G_written_names hr pass0 (pe_fld (pv 0) rfl))) (pg_name (i := 2) sc_Works_kept.nd rfl (by first | exact Or.inl rfl | exact Or.inr rfl)) (pss_one (ps_dput hu (pv 1) (pv 2) (pe_dget (by exact hu) (pe_fld (pv 0) rfl) (pv 2) (fun _ _ => rfl)) rfl)))
        (pss_one (ps_ret (pe_tup (pa_cons (pv 1) (pa_cons (pe_callTy call_dictD (by rfl) T.z_dict (show PySem.bootBuiltins "dict" = some (.type "dict") by decide +kernel) (pa_cons (pe_fld (pv 0) rfl) pa_nil)) (pa_cons (pe_callTy call_dictD (by rfl) T.z_dict (show PySem.bootBuiltins "dict" = some (.type "dict") by decide +kernel) (pa_cons (pe_fld (pv 0) rfl) pa_nil)) pa_nil)))))))), ?_⟩
    walk_at "rd"
    obtain ⟨al, dl, ti, tt, tr, ws, rfl, hal, h1, h2, h3, h4⟩ := id hl
    have hub := hfit.bits_len
    have hcl := hfit.cnt_len
    have hsl := hfit.seen_len
    refine fun d nd => ?_
    have hd : upd H d (.dK []) d = some (.dK []) := upd_same
    have s1 : Same H (upd H d (.dK [])) := Same.new nd
    show tFor _ _ _ _ _ (upd H d (.dK []))
    generalize upd H d (.dK []) = H1 at hd s1 ⊢
    refine ⟨_, rfl, x, _, dx, _, _, rfl, s1 _ _ hx, T.wk.c_Works.cl, T.wk.nl_wk, lkW1, al, _, dl, _, rfl, s1 _ _ hal, rfl, lkLw, .ref al, l, rfl, hl.mono (Same.imm s1), by omega, fun H2 p2 s2 hp2 => ?_⟩
    have hd2 := s2 _ _ hd
    have s02 := s1.trans s2
    have pd : p2 ≠ d := fun e => by rw [e, hd2] at hp2; cases hp2
    refine ⟨p2, rfl, ⟨_, SqT.of hp2⟩, for_tup (K := K) (a := p2) (xs := (writ l.rs).map V.str) (fun i σ H' => ∃ v2 : Option V, σ = [some (.ref x), some (.ref d), v2] ∧ Same H H' ∧ H' p2 = some (.tup ((writ l.rs).map V.str)) ∧ H' d = some (.dK (dL V.bl (((writ l.rs).take i).map fun n => (n, u.bitOf n))))) ⟨none, rfl, s02, hp2, hd2⟩ (fun i σ H' _ ⟨_, _, _, q, _⟩ => SqT.of q) ?_ ?_⟩
    · rintro i y σ H3 hy ⟨v2, rfl, s3, hp3, hd3⟩
      rw [List.getElem?_map] at hy
      obtain ⟨n, hn, rfl⟩ := Option.map_eq_some_iff.mp hy
      have hi := (List.getElem?_eq_some_iff.mp hn).1
      obtain ⟨v, hv⟩ := getL_mem.mpr (show n ∈ keysL u.bits by rw [hfit.kb]; exact List.mem_append_right _ (List.mem_of_getElem? hn))
      have ev : v = u.bitOf n := by unfold Ws.bitOf; rw [hv]; rfl
      walk_at "rd"
      refine ⟨_, rfl, x, _, dx, _, _, rfl, s3 _ _ hx, T.wk.c_Works.cl, T.wk.nb_wk, lkW2, _, rfl, b, .bl v, rfl, .inl ⟨_, .inr n, .inl (s3 _ _ ht.hb), rfl, by rw [dL_get, hv]; rfl⟩, _, rfl, _, rfl, d, _, rfl, DPut.k (k := .inr n) hd3 (by rw [dL_len, List.length_map, List.length_take, sizeLine_eq]; omega), _, rfl, Same.mut s3 nd, by rw [upd_ne pd]; exact hp3, ?_⟩
      rw [upd_same, dL_put, ev, map_take_snocB hn (writ_nodup _)]
    · rintro σ H3 ⟨v2, rfl, s3, hp3, hd3⟩
      rw [List.length_map, List.take_length] at hd3
      walk_at "rd"
      refine ⟨_, rfl, x, _, dx, _, _, rfl, s3 _ _ hx, T.wk.c_Works.cl, T.wk.nc_wk, lkW3, c, rfl, _, .inl (s3 _ _ ht.hc), fun c2 nc2 => ?_⟩
      have s4 := s3.trans (Same.new (o := .dK (dL V.int u.cnt)) nc2)
      have hd4 := Same.new (o := .dK (dL V.int u.cnt)) nc2 _ _ hd3
      have hc4 : upd H3 c2 (.dK (dL V.int u.cnt)) c2 = some (.dK (dL V.int u.cnt)) := upd_same
      have dc : d ≠ c2 := ne_of_none hd3 nc2
      have nc0 : H c2 = none := s3.free nc2
      generalize upd H3 c2 (.dK (dL V.int u.cnt)) = H4 at s4 hd4 hc4 ⊢
      refine ⟨_, rfl, x, _, dx, _, _, rfl, s4 _ _ hx, T.wk.c_Works.cl, T.wk.ns_wk, lkW4, s, rfl, _, .inl (s4 _ _ ht.hs), fun s2' ns2 => ⟨line_ge (by simp), fun t nt => ?_⟩⟩
      have e5 := (Same.new (o := .dK (dL V.bl u.seen)) ns2).trans (Same.new (o := .tup [.ref d, .ref c2, .ref s2']) nt)
      have hs5 := Same.new (o := .tup [.ref d, .ref c2, .ref s2']) nt _ _ (show upd H4 s2' (.dK (dL V.bl u.seen)) s2' = some (.dK (dL V.bl u.seen)) from upd_same)
      have ds : d ≠ s2' := ne_of_none hd4 ns2
      have cs' : c2 ≠ s2' := ne_of_none hc4 ns2
      have nt0 : H t = none := s4.free ((Same.new ns2).free nt)
      exact k _ t d c2 s2' ⟨s4.trans e5, ⟨e5 _ _ hd4, e5 _ _ hc4, hs5, dc, ds, cs'⟩, nd, nc0, s4.free ns2⟩ nt0 upd_same

/-- what stands kept: three dicts in a tuple -/
def spBack (K : PySem.W.Frag) (cs : Cs) (cw : Addr) : Sp := fun vs H Q _ => ∃ (x dx b c s kt b' c' s' : Addr) (lv : V) (u kw : Ws) (l : Lad), vs = [.ref x, .ref kt] ∧ H x = some (.ins cw dx (wkF lv b c s)) ∧ IsL K cs H lv l ∧ Tri H b c s u ∧ Fits l u ∧ l.fair = true ∧
  H kt = some (.tup [.ref b', .ref c', .ref s']) ∧ Tri H b' c' s' kw ∧ KFits l kw ∧ Ap3 b c s b' c' s' ∧ ∀ H' : Hp, But3 b c s H H' → Tri H' b c s (backW l kw) → Q .non H'
theorem disp_back (T : TKept K mg cs cc xc cw) : DispAt P w K mg base CX0 (fun C => C = cw) "put_back" 2 ["self", "kept"] (fun _ vs H Q _ => spBack K cs cw vs H Q E0) := by
  refine ⟨fun C hC => ?_⟩
  subst hC
  refine methAt_ok T.wk.c_Works.cl T.m_put_back sc_Works_put_back (fun vs H Q E h => ?_) (fun f cdv A outer st H vs Q E hr h => ?_)
  · obtain ⟨x, dx, b, c, s, kt, b', c', s', lv, u, kw, l, rfl, _⟩ := h; rfl
  · obtain ⟨x, dx, b, c, s, kt, b', c', s', lv, u, kw, l, rfl, hx, hl, ht, hfit, hfair, hkt, htk, hkf, ap, k⟩ := h
    have hu := hu_of hr
    obtain ⟨f1, f2, f3, f4, f5, f6, f7, f8, f9⟩ := (fair_iff l).mp hfair
    refine ⟨_, (pss_cons (ps_for PassesOwn.never rfl (pi_tup (pe_fld (pe_fld (pv 0) rfl) rfl)) (pg_name (i := 2) sc_Works_put_back.nd rfl (by first | exact Or.inl rfl | exact Or.inr rfl)) (pss_one (ps_dput hu (pe_fld (pv 0) rfl) (pv 2) pe_bl rfl)))
        (pss_cons (ps_expr (pe_bm PySem.F.plainAttrs_dict PySem.F.slot_dict_update PySem.F.type_dict_update mtd_update (pe_fld (pv 0) rfl) (pa_cons (pe_ix ix_tup (pv 1) pe_int (fun _ _ => rfl)) pa_nil)))
        (pss_cons (ps_expr (pe_bm PySem.F.plainAttrs_dict PySem.F.slot_dict_update PySem.F.type_dict_update mtd_update (pe_fld (pv 0) rfl) (pa_cons (pe_ix ix_tup (pv 1) pe_int (fun _ _ => rfl)) pa_nil)))
        (pss_one (ps_expr (pe_bm PySem.F.plainAttrs_dict PySem.F.slot_dict_update PySem.F.type_dict_update mtd_update (pe_fld (pv 0) rfl) (pa_cons (pe_ix ix_tup (pv 1) pe_int (fun _ _ => rfl)) pa_nil))))))), ?_⟩
    walk_at "rd"
    obtain ⟨al, dl, ti, tt, tr, ws, rfl, hal, h1, h2, h3, h4⟩ := id hl
    have xne : x ≠ b ∧ x ≠ c ∧ x ≠ s := ⟨fun e => (by rw [e, ht.hb] at hx; cases hx), fun e => (by rw [e, ht.hc] at hx; cases hx), fun e => (by rw [e, ht.hs] at hx; cases hx)⟩
    have hub := hfit.bits_len
    have hcl := hfit.cnt_len
    have hsl := hfit.seen_len
    have all : ∀ {H' : Hp}, But3 b c s H H' → H' x = some (.ins C dx (wkF (.ref al) b c s)) ∧ H' kt = some (.tup [.ref b', .ref c', .ref s']) ∧ Tri H' b' c' s' kw := fun k3 =>
      ⟨k3 _ _ hx xne.1 xne.2.1 xne.2.2, (k3.noD ht).tup hkt, htk.butA k3 ap.symm⟩
    refine ⟨_, rfl, x, _, dx, _, _, rfl, hx, T.wk.c_Works.cl, T.wk.nl_wk, lkW1, al, _, dl, _, _, rfl, hal, T.wk.lad.c_Ladder.cl, T.wk.lad.ni_ld, lkL1, ti, rfl, ⟨_, h1.seq⟩, for_tup (K := K) (a := ti) (xs := l.ins.map V.str) (fun i σ H' => ∃ v2 : Option V, σ = [some (.ref x), some (.ref kt), v2] ∧ But3 b c s H H' ∧ Tri H' b c s ⟨putAll u.bits ((l.ins.take i).map fun n => (n, false)), u.cnt, u.seen⟩) ⟨none, rfl, But3.refl _, ht⟩ (fun i σ H' _ ⟨_, _, q, _⟩ => (h1.mono (T := fun _ => False) (q.imm ht)).seq) ?_ ?_⟩
    · rintro i y σ H1 hy ⟨v2, rfl, k1, t1⟩
      rw [List.getElem?_map] at hy
      obtain ⟨n, hn, rfl⟩ := Option.map_eq_some_iff.mp hy
      have hi := (List.getElem?_eq_some_iff.mp hn).1
      have hl1 : (putAll u.bits ((l.ins.take i).map fun n => (n, false))).length ≤ u.bits.length + i := by
        have : ∀ (r b : List (Str × Bool)), (putAll b r).length ≤ b.length + r.length := fun r => by
          induction r with
          | nil => intro b; exact Nat.le_refl _
          | cons p r ih =>
            intro b
            have h1 := ih (putL b p.1 p.2)
            have h2 := put_le (l := b) (n := p.1) (v := p.2)
            show (putAll (putL b p.1 p.2) r).length ≤ _
            rw [List.length_cons]
            omega
        have h := this ((l.ins.take i).map fun n => (n, false)) u.bits
        rw [List.length_map, List.length_take] at h
        omega
      walk_at "rd"
      refine ⟨_, rfl, x, _, dx, _, _, rfl, (all k1).1, T.wk.c_Works.cl, T.wk.nb_wk, lkW2, _, rfl, b, _, rfl, DPut.k (k := .inr n) t1.hb (by rw [dL_len, sizeLine_eq]; show (putAll _ _).length < _; omega), _, rfl, k1.trans But3.ub, ?_⟩
      have q := t1.putB (putL (putAll u.bits ((l.ins.take i).map fun n => (n, false))) n false)
      rw [← dL_put] at q
      rw [List.take_succ, hn, Option.toList_some, List.map_append, putAll_app]
      exact q
    rintro σ H1 ⟨v2, rfl, k1, t1⟩
    rw [List.length_map, List.take_length] at t1
    obtain ⟨hx1, hk1, tk1⟩ := all k1
    have hnd : (keysL u.bits).Nodup := by
      rw [hfit.kb, List.nodup_append]
      exact ⟨f2, writ_nodup _, fun a ha b hb e => f6 a ha (by rw [e]; exact hb)⟩
    have eb : putAll (putAll u.bits (l.ins.map fun n => (n, false))) kw.bits = (backW l kw).bits := by
      rw [← putAll_app]
      refine putAll_all ?_ hnd
      rw [hfit.kb, keysL, List.map_append, show kw.bits.map (·.1) = writ l.rs from hkf.kb]
      simp [Function.comp_def]
    have ec : putAll u.cnt kw.cnt = kw.cnt := putAll_all (by rw [hfit.kc, hkf.kc]) (by rw [hfit.kc]; exact cnt0_nodup _)
    have es : putAll u.seen kw.seen = kw.seen := putAll_all (by rw [hfit.ks, hkf.ks]) (by rw [hfit.ks]; exact seen0_nodup _)
    have lb : (putAll u.bits (l.ins.map fun n => (n, false))).length ≤ 1000 := by
      have : ∀ (r b : List (Str × Bool)), (putAll b r).length ≤ b.length + r.length := fun r => by
        induction r with
        | nil => intro b; exact Nat.le_refl _
        | cons p r ih =>
          intro b
          have h1 := ih (putL b p.1 p.2)
          have h2 := put_le (l := b) (n := p.1) (v := p.2)
          show (putAll (putL b p.1 p.2) r).length ≤ _
          rw [List.length_cons]
          omega
      have h := this (l.ins.map fun n => (n, false)) u.bits
      rw [List.length_map] at h
      omega
    have lkb : kw.bits.length ≤ 1000 := by
      have := congrArg List.length hkf.kb
      rw [len_keys] at this
      omega
    have lkc : kw.cnt.length ≤ 1000 := by
      have h1 := congrArg List.length hkf.kc
      rw [len_keys, len_keys] at h1
      have := cnt0_len l.rs
      omega
    have lks : kw.seen.length ≤ 1000 := by
      have h1 := congrArg List.length hkf.ks
      rw [len_keys, len_keys] at h1
      have := seen0_len l.rs
      omega
    generalize putAll u.bits (l.ins.map fun n => (n, false)) = b1 at t1 eb lb
    walk_at "rd"
    unfold tBM
    walk_at "rd"
    refine ⟨_, rfl, x, _, dx, _, _, rfl, hx1, T.wk.c_Works.cl, T.wk.nb_wk, lkW2, .inr (.inr (.inl ⟨rfl, .inl ⟨_, t1.hb⟩⟩)), kt, _, 0, .ref b', rfl, rfl, SqT.of hk1, atI_int (by decide) rfl, ?_⟩
    refine ⟨b, b', _, _, rfl, rfl, t1.hb, tk1.hb, ap.1.1, line_ge (by rw [dL_len, dL_len]; show b1.length + kw.bits.length ≤ _; omega), ?_⟩
    rw [dL_merge, eb]
    have t2 := t1.putB (backW l kw).bits
    have k2 := k1.trans (But3.ub (b := b) (c := c) (s := s) (o := .dK (dL V.bl (backW l kw).bits)))
    generalize upd H1 b (.dK (dL V.bl (backW l kw).bits)) = H2 at t2 k2 ⊢
    obtain ⟨hx2, hk2, tk2⟩ := all k2
    refine ⟨_, rfl, x, _, dx, _, _, rfl, hx2, T.wk.c_Works.cl, T.wk.nc_wk, lkW3, .inr (.inr (.inl ⟨rfl, .inl ⟨_, t2.hc⟩⟩)), kt, _, 1, .ref c', rfl, rfl, SqT.of hk2, atI_int (by decide) rfl, ?_⟩
    refine ⟨c, c', _, _, rfl, rfl, t2.hc, tk2.hc, ap.2.1.2.1, line_ge (by rw [dL_len, dL_len]; show u.cnt.length + kw.cnt.length ≤ _; omega), ?_⟩
    rw [dL_merge, show putAll (Ws.mk (backW l kw).bits u.cnt u.seen).cnt kw.cnt = kw.cnt from ec]
    have t3 := t2.putC kw.cnt
    have k3 := k2.trans (But3.uc (b := b) (c := c) (s := s) (o := .dK (dL V.int kw.cnt)))
    generalize upd H2 c (.dK (dL V.int kw.cnt)) = H3 at t3 k3 ⊢
    obtain ⟨hx3, hk3, tk3⟩ := all k3
    refine ⟨_, rfl, x, _, dx, _, _, rfl, hx3, T.wk.c_Works.cl, T.wk.ns_wk, lkW4, .inr (.inr (.inl ⟨rfl, .inl ⟨_, t3.hs⟩⟩)), kt, _, 2, .ref s', rfl, rfl, SqT.of hk3, atI_int (by decide) rfl, ?_⟩
    refine ⟨s, s', _, _, rfl, rfl, t3.hs, tk3.hs, ap.2.2.2.2, line_ge (by rw [dL_len, dL_len]; show u.seen.length + kw.seen.length ≤ _; omega), ?_⟩
    rw [dL_merge, show putAll (Ws.mk (backW l kw).bits kw.cnt u.seen).seen kw.seen = kw.seen from es]
    exact k _ (k3.trans But3.us) (t3.putS kw.seen)
end

/-! ## put back, in any order -/
def overW (l : Lad) (u kw : Ws) : Ws := ⟨putAll (putAll u.bits (l.ins.map fun n => (n, false))) kw.bits, putAll u.cnt kw.cnt, putAll u.seen kw.seen⟩
section
variable {P : Program} {w : World} {K : PySem.W.Frag} {mg : Str → Option Value} {base : Heap} {cs : Cs} {cc : Addr} {xc : Xc} {cw : Addr}
def spBack2 (K : PySem.W.Frag) (cs : Cs) (cw : Addr) : Sp := fun vs H Q _ => ∃ (x dx b c s kt b' c' s' : Addr) (lv : V) (u kw : Ws) (l : Lad), vs = [.ref x, .ref kt] ∧ H x = some (.ins cw dx (wkF lv b c s)) ∧ IsL K cs H lv l ∧ Tri H b c s u ∧ Fits l u ∧ l.fair = true ∧
  H kt = some (.tup [.ref b', .ref c', .ref s']) ∧ Tri H b' c' s' kw ∧ kw.bits.length ≤ 1000 ∧ kw.cnt.length ≤ 1000 ∧ kw.seen.length ≤ 1000 ∧ Ap3 b c s b' c' s' ∧ ∀ H' : Hp, But3 b c s H H' → Tri H' b c s (overW l u kw) → Q .non H'
theorem disp_back2 (T : TKept K mg cs cc xc cw) : DispAt P w K mg base CX0 (fun C => C = cw) "put_back" 2 ["self", "kept"] (fun _ vs H Q _ => spBack2 K cs cw vs H Q E0) := by
  refine ⟨fun C hC => ?_⟩
  subst hC
  refine methAt_ok T.wk.c_Works.cl T.m_put_back sc_Works_put_back (fun vs H Q E h => ?_) (fun f cdv A outer st H vs Q E hr h => ?_)
  · obtain ⟨x, dx, b, c, s, kt, b', c', s', lv, u, kw, l, rfl, _⟩ := h; rfl
  · obtain ⟨x, dx, b, c, s, kt, b', c', s', lv, u, kw, l, rfl, hx, hl, ht, hfit, hfair, hkt, htk, lkb, lkc, lks, ap, k⟩ := h
    have hu := hu_of hr
    obtain ⟨f1, f2, f3, f4, f5, f6, f7, f8, f9⟩ := (fair_iff l).mp hfair
    refine ⟨_, (pss_cons (ps_for PassesOwn.never rfl (pi_tup (pe_fld (pe_fld (pv 0) rfl) rfl)) (pg_name (i := 2) sc_Works_put_back.nd rfl (by first | exact Or.inl rfl | exact Or.inr rfl)) (pss_one (ps_dput hu (pe_fld (pv 0) rfl) (pv 2) pe_bl rfl)))
        (pss_cons (ps_expr (pe_bm PySem.F.plainAttrs_dict PySem.F.slot_dict_update PySem.F.type_dict_update mtd_update (pe_fld (pv 0) rfl) (pa_cons (pe_ix ix_tup (pv 1) pe_int (fun _ _ => rfl)) pa_nil)))
        (pss_cons (ps_expr (pe_bm PySem.F.plainAttrs_dict PySem.F.slot_dict_update PySem.F.type_dict_update mtd_update (pe_fld (pv 0) rfl) (pa_cons (pe_ix ix_tup (pv 1) pe_int (fun _ _ => rfl)) pa_nil)))
        (pss_one (ps_expr (pe_bm PySem.F.plainAttrs_dict PySem.F.slot_dict_update PySem.F.type_dict_update mtd_update (pe_fld (pv 0) rfl) (pa_cons (pe_ix ix_tup (pv 1) pe_int (fun _ _ => rfl)) pa_nil))))))), ?_⟩
    walk_at "rd"
    obtain ⟨al, dl, ti, tt, tr, ws, rfl, hal, h1, h2, h3, h4⟩ := id hl
    have xne : x ≠ b ∧ x ≠ c ∧ x ≠ s := ⟨fun e => (by rw [e, ht.hb] at hx; cases hx), fun e => (by rw [e, ht.hc] at hx; cases hx), fun e => (by rw [e, ht.hs] at hx; cases hx)⟩
    have hub := hfit.bits_len
    have hcl := hfit.cnt_len
    have hsl := hfit.seen_len
    have all : ∀ {H' : Hp}, But3 b c s H H' → H' x = some (.ins C dx (wkF (.ref al) b c s)) ∧ H' kt = some (.tup [.ref b', .ref c', .ref s']) ∧ Tri H' b' c' s' kw := fun k3 =>
      ⟨k3 _ _ hx xne.1 xne.2.1 xne.2.2, (k3.noD ht).tup hkt, htk.butA k3 ap.symm⟩
    refine ⟨_, rfl, x, _, dx, _, _, rfl, hx, T.wk.c_Works.cl, T.wk.nl_wk, lkW1, al, _, dl, _, _, rfl, hal, T.wk.lad.c_Ladder.cl, T.wk.lad.ni_ld, lkL1, ti, rfl, ⟨_, h1.seq⟩, for_tup (K := K) (a := ti) (xs := l.ins.map V.str) (fun i σ H' => ∃ v2 : Option V, σ = [some (.ref x), some (.ref kt), v2] ∧ But3 b c s H H' ∧ Tri H' b c s ⟨putAll u.bits ((l.ins.take i).map fun n => (n, false)), u.cnt, u.seen⟩) ⟨none, rfl, But3.refl _, ht⟩ (fun i σ H' _ ⟨_, _, q, _⟩ => (h1.mono (T := fun _ => False) (q.imm ht)).seq) ?_ ?_⟩
    · rintro i y σ H1 hy ⟨v2, rfl, k1, t1⟩
      rw [List.getElem?_map] at hy
      obtain ⟨n, hn, rfl⟩ := Option.map_eq_some_iff.mp hy
      have hi := (List.getElem?_eq_some_iff.mp hn).1
      have hl1 : (putAll u.bits ((l.ins.take i).map fun n => (n, false))).length ≤ u.bits.length + i := by
        have : ∀ (r b : List (Str × Bool)), (putAll b r).length ≤ b.length + r.length := fun r => by
          induction r with
          | nil => intro b; exact Nat.le_refl _
          | cons p r ih =>
            intro b
            have h1 := ih (putL b p.1 p.2)
            have h2 := put_le (l := b) (n := p.1) (v := p.2)
            show (putAll (putL b p.1 p.2) r).length ≤ _
            rw [List.length_cons]
            omega
        have h := this ((l.ins.take i).map fun n => (n, false)) u.bits
        rw [List.length_map, List.length_take] at h
        omega
      walk_at "rd"
      refine ⟨_, rfl, x, _, dx, _, _, rfl, (all k1).1, T.wk.c_Works.cl, T.wk.nb_wk, lkW2, _, rfl, b, _, rfl, DPut.k (k := .inr n) t1.hb (by rw [dL_len, sizeLine_eq]; show (putAll _ _).length < _; omega), _, rfl, k1.trans But3.ub, ?_⟩
      have q := t1.putB (putL (putAll u.bits ((l.ins.take i).map fun n => (n, false))) n false)
      rw [← dL_put] at q
      rw [List.take_succ, hn, Option.toList_some, List.map_append, putAll_app]
      exact q
    rintro σ H1 ⟨v2, rfl, k1, t1⟩
    rw [List.length_map, List.take_length] at t1
    obtain ⟨hx1, hk1, tk1⟩ := all k1
    have eb : putAll (putAll u.bits (l.ins.map fun n => (n, false))) kw.bits = (overW l u kw).bits := rfl
    have lb : (putAll u.bits (l.ins.map fun n => (n, false))).length ≤ 1000 := by
      have : ∀ (r b : List (Str × Bool)), (putAll b r).length ≤ b.length + r.length := fun r => by
        induction r with
        | nil => intro b; exact Nat.le_refl _
        | cons p r ih =>
          intro b
          have h1 := ih (putL b p.1 p.2)
          have h2 := put_le (l := b) (n := p.1) (v := p.2)
          show (putAll (putL b p.1 p.2) r).length ≤ _
          rw [List.length_cons]
          omega
      have h := this (l.ins.map fun n => (n, false)) u.bits
      rw [List.length_map] at h
      omega
    generalize putAll u.bits (l.ins.map fun n => (n, false)) = b1 at t1 eb lb
    walk_at "rd"
    unfold tBM
    walk_at "rd"
    refine ⟨_, rfl, x, _, dx, _, _, rfl, hx1, T.wk.c_Works.cl, T.wk.nb_wk, lkW2, .inr (.inr (.inl ⟨rfl, .inl ⟨_, t1.hb⟩⟩)), kt, _, 0, .ref b', rfl, rfl, SqT.of hk1, atI_int (by decide) rfl, ?_⟩
    refine ⟨b, b', _, _, rfl, rfl, t1.hb, tk1.hb, ap.1.1, line_ge (by rw [dL_len, dL_len]; show b1.length + kw.bits.length ≤ _; omega), ?_⟩
    rw [dL_merge, eb]
    have t2 := t1.putB (overW l u kw).bits
    have k2 := k1.trans (But3.ub (b := b) (c := c) (s := s) (o := .dK (dL V.bl (overW l u kw).bits)))
    generalize upd H1 b (.dK (dL V.bl (overW l u kw).bits)) = H2 at t2 k2 ⊢
    obtain ⟨hx2, hk2, tk2⟩ := all k2
    refine ⟨_, rfl, x, _, dx, _, _, rfl, hx2, T.wk.c_Works.cl, T.wk.nc_wk, lkW3, .inr (.inr (.inl ⟨rfl, .inl ⟨_, t2.hc⟩⟩)), kt, _, 1, .ref c', rfl, rfl, SqT.of hk2, atI_int (by decide) rfl, ?_⟩
    refine ⟨c, c', _, _, rfl, rfl, t2.hc, tk2.hc, ap.2.1.2.1, line_ge (by rw [dL_len, dL_len]; show u.cnt.length + kw.cnt.length ≤ _; omega), ?_⟩
    rw [dL_merge, show putAll (Ws.mk (overW l u kw).bits u.cnt u.seen).cnt kw.cnt = (overW l u kw).cnt from rfl]
    have t3 := t2.putC (overW l u kw).cnt
    have k3 := k2.trans (But3.uc (b := b) (c := c) (s := s) (o := .dK (dL V.int (overW l u kw).cnt)))
    generalize upd H2 c (.dK (dL V.int (overW l u kw).cnt)) = H3 at t3 k3 ⊢
    obtain ⟨hx3, hk3, tk3⟩ := all k3
    refine ⟨_, rfl, x, _, dx, _, _, rfl, hx3, T.wk.c_Works.cl, T.wk.ns_wk, lkW4, .inr (.inr (.inl ⟨rfl, .inl ⟨_, t3.hs⟩⟩)), kt, _, 2, .ref s', rfl, rfl, SqT.of hk3, atI_int (by decide) rfl, ?_⟩
    refine ⟨s, s', _, _, rfl, rfl, t3.hs, tk3.hs, ap.2.2.2.2, line_ge (by rw [dL_len, dL_len]; show u.seen.length + kw.seen.length ≤ _; omega), ?_⟩
    rw [dL_merge, show putAll (Ws.mk (overW l u kw).bits (overW l u kw).cnt u.seen).seen kw.seen = (overW l u kw).seen from rfl]
    exact k _ (k3.trans But3.us) (t3.putS (overW l u kw).seen)
end

--%% NC
/-! ## states: the plain side -/
def ctE (rs : List Rg) : List (Str × EndC) := rs.foldl (fun l r => if r.e.k.counts = true then putL l r.e.n r.e else l) []
theorem ctE_snoc (rs : List Rg) (r : Rg) : ctE (rs ++ [r]) = if r.e.k.counts = true then putL (ctE rs) r.e.n r.e else ctE rs := by
  unfold ctE
  rw [List.foldl_append]
  rfl
theorem ctE_len (rs : List Rg) : (ctE rs).length ≤ rs.length := writ_ind (p := fun rs => (ctE rs).length ≤ rs.length) (by simp [ctE]) (fun rs r ih => by
  rw [ctE_snoc, List.length_append]
  split
  · have := put_le (l := ctE rs) (n := r.e.n) (v := r.e)
    simp
    omega
  · simp; omega) rs
def bitsOf (rs : List Rg) (n : Str) : Nat := match getL (ctE rs) n with
  | none => 1
  | some e => 4 + if e.k = .counter then 1 else 0
def widthL (rs : List Rg) (ns : List Str) : Nat := (ns.map (bitsOf rs)).sum
theorem bitsOf_le (rs : List Rg) (n : Str) : 1 ≤ bitsOf rs n ∧ bitsOf rs n ≤ 5 := by
  unfold bitsOf
  split
  · omega
  · split <;> omega
theorem widthL_le (rs : List Rg) : ∀ ns, widthL rs ns ≤ 5 * ns.length
  | [] => by simp [widthL]
  | n :: ns => by
    have h1 := widthL_le rs ns
    have h2 := bitsOf_le rs n
    unfold widthL at h1 ⊢
    rw [List.map_cons, List.sum_cons, List.length_cons]
    omega
theorem sum_castS (f : Str → Nat) : ∀ ns : List Str, (ns.map fun n => ((f n : Nat) : Int)).sum = (((ns.map f).sum : Nat) : Int)
  | [] => rfl
  | n :: ns => by
    rw [List.map_cons, List.map_cons, List.sum_cons, List.sum_cons, sum_castS f ns]
    omega
/-- a name's number -/
def numOf (k : Ws) (n : Str) : Nat := if n ∈ keysL k.cnt then (k.cntOf n).toNat + (if k.seenOf n = true then 16 else 0) else if k.bitOf n = true then 1 else 0
def stateL (rs : List Rg) (k : Ws) : List Str → Nat
  | [] => 0
  | n :: r => numOf k n + 2 ^ bitsOf rs n * stateL rs k r
theorem widthL_snoc (rs : List Rg) (ns : List Str) (n : Str) : widthL rs (ns ++ [n]) = widthL rs ns + bitsOf rs n := by
  unfold widthL
  rw [List.map_append, List.sum_append]
  simp
theorem stateL_snoc (rs : List Rg) (k : Ws) (n : Str) : ∀ ns : List Str, stateL rs k (ns ++ [n]) = stateL rs k ns + numOf k n * 2 ^ widthL rs ns
  | [] => by simp [stateL, widthL]
  | x :: ns => by
    have ih := stateL_snoc rs k n ns
    have hw : widthL rs (x :: ns) = bitsOf rs x + widthL rs ns := by unfold widthL; rw [List.map_cons, List.sum_cons]
    rw [List.cons_append, stateL, stateL, ih, hw, Nat.pow_add, Nat.mul_add, Nat.mul_left_comm, Nat.add_assoc]
theorem stateL_lt (rs : List Rg) (k : Ws) : ∀ ns : List Str, (∀ n ∈ ns, numOf k n < 2 ^ bitsOf rs n) → stateL rs k ns < 2 ^ widthL rs ns
  | [], _ => by simp [stateL, widthL]
  | x :: ns, h => by
    have ih := stateL_lt rs k ns fun n hn => h n (List.mem_cons_of_mem _ hn)
    have hx := h x List.mem_cons_self
    have hw : widthL rs (x :: ns) = bitsOf rs x + widthL rs ns := by unfold widthL; rw [List.map_cons, List.sum_cons]
    rw [stateL, hw, Nat.pow_add]
    have h2 : 2 ^ bitsOf rs x * stateL rs k ns + 2 ^ bitsOf rs x ≤ 2 ^ bitsOf rs x * 2 ^ widthL rs ns := by
      rw [← Nat.mul_succ]
      exact Nat.mul_le_mul_left _ ih
    omega
def pieceL (rs : List Rg) : Nat → List Str → List (Str × Int)
  | _, [] => []
  | st, n :: r => (n, ((st % 2 ^ bitsOf rs n : Nat) : Int)) :: pieceL rs (st / 2 ^ bitsOf rs n) r
theorem pieceL_keys (rs : List Rg) : ∀ (ns : List Str) (st : Nat), keysL (pieceL rs st ns) = ns
  | [], _ => rfl
  | n :: ns, st => by
    have ih := pieceL_keys rs ns (st / 2 ^ bitsOf rs n)
    unfold keysL at ih ⊢
    rw [pieceL, List.map_cons, ih]
theorem pieceL_snoc (rs : List Rg) (n : Str) : ∀ (ns : List Str) (st : Nat), pieceL rs st (ns ++ [n]) = pieceL rs st ns ++ [(n, ((st / 2 ^ widthL rs ns % 2 ^ bitsOf rs n : Nat) : Int))]
  | [], st => by simp [pieceL, widthL]
  | x :: ns, st => by
    have hw : widthL rs (x :: ns) = bitsOf rs x + widthL rs ns := by unfold widthL; rw [List.map_cons, List.sum_cons]
    rw [List.cons_append, pieceL, pieceL, pieceL_snoc rs n ns, hw, Nat.div_div_eq_div_mul, ← Nat.pow_add]
    rfl
def CntOk (k : Ws) : Prop := ∀ n v, getL k.cnt n = some v → 0 ≤ v ∧ v < 16
def NumOk (rs : List Rg) (k : Ws) : Prop := ∀ n ∈ writ rs, numOf k n < 2 ^ bitsOf rs n
/-- the ends' dict -/
def EndsD (ce : Ce) (H : Hp) (l : List (Str × EndC)) (kvs : List (Str × V)) : Prop := keysL kvs = keysL l ∧ ∀ n e, getL l n = some e → ∃ v, getL kvs n = some v ∧ IsE ce H v e
/-! ## states: the walks -/
abbrev s_counting_ends : Stmt := top 30
theorem sc_counting_ends : FnScope ["ladder", "found", "rung"] ["ladder"] (defScope s_counting_ends) := ⟨rfl, rfl, rfl, by decide +kernel, rfl, by decide +kernel, by decide +kernel⟩
abbrev s_bits_of : Stmt := top 31
theorem sc_bits_of : FnScope ["ends", "name"] ["ends", "name"] (defScope s_bits_of) := ⟨rfl, rfl, rfl, by decide +kernel, rfl, by decide +kernel, by decide +kernel⟩
abbrev s_width : Stmt := top 32
theorem sc_width : FnScope ["ladder", "ends", "name"] ["ladder"] (defScope s_width) := ⟨rfl, rfl, rfl, by decide +kernel, rfl, by decide +kernel, by decide +kernel⟩
abbrev s_state_of : Stmt := top 33
theorem sc_state_of : FnScope ["works", "bits", "counts", "saw", "ends", "state", "at", "name", "number"] ["works"] (defScope s_state_of) := ⟨rfl, rfl, rfl, by decide +kernel, rfl, by decide +kernel, by decide +kernel⟩
abbrev s_pieces : Stmt := top 34
theorem sc_pieces : FnScope ["ladder", "state", "ends", "found", "name", "bits"] ["ladder", "state"] (defScope s_pieces) := ⟨rfl, rfl, rfl, by decide +kernel, rfl, by decide +kernel, by decide +kernel⟩
structure TStates (K : PySem.W.Frag) (mg : Str → Option Value) (cs : Cs) (cc : Addr) (xc : Xc) (cw : Addr) : Prop where
  wk : TWorks K mg cs cc xc cw
  d_counting_ends : DefAt K mg "counting_ends" s_counting_ends ["ladder"]
  d_bits_of : DefAt K mg "bits_of" s_bits_of ["ends", "name"]
  d_width : DefAt K mg "width" s_width ["ladder"]
  d_state_of : DefAt K mg "state_of" s_state_of ["works"]
  d_pieces : DefAt K mg "pieces" s_pieces ["ladder", "state"]
  exs : TExs K mg xc
  kept : TKept K mg cs cc xc cw
  g_COUNT_BITS : GlobC mg "COUNT_BITS" (.int 4)
  z_isinstance : mg "isinstance" = none
  z_int : mg "int" = none
  z_sum : mg "sum" = none
section
variable {P : Program} {w : World} {K : PySem.W.Frag} {mg : Str → Option Value} {base : Heap} {cs : Cs} {cc : Addr} {xc : Xc} {cw : Addr}
theorem TStates.is_Timer (T : TStates K mg cs cc xc cw) : Ru.IsT K cs.ce.timer (fun C b => ∃ k : Ek, C = cs.ce.at k ∧ b = decide (k = .timer)) := T.wk.is_Timer
theorem TStates.is_Counter (T : TStates K mg cs cc xc cw) : Ru.IsT K cs.ce.counter (fun C b => ∃ k : Ek, C = cs.ce.at k ∧ b = decide (k = .counter)) := T.wk.is_Counter
theorem TStates.c_Timer (T : TStates K mg cs cc xc cw) : ClsAt K mg "Timer" cs.ce.timer := T.wk.c_Timer
theorem TStates.c_Counter (T : TStates K mg cs cc xc cw) : ClsAt K mg "Counter" cs.ce.counter := T.wk.c_Counter
def spEndsD (K : PySem.W.Frag) (cs : Cs) : Sp := fun vs H Q _ => ∃ (v : V) (l : Lad), vs = [v] ∧ IsL K cs H v l ∧ l.rs.length ≤ 30 ∧ ∀ (H' : Hp) (d : Addr) (kvs : List (Str × V)), Same H H' → H d = none → H' d = some (.dK (dL id kvs)) → EndsD cs.ce H' (ctE l.rs) kvs → Q (.ref d) H'
theorem ok_endsD (T : TStates K mg cs cc xc cw) : FnAt P w K mg base CX0 "counting_ends" 1 ["ladder"] (spEndsD K cs) := by
  refine fnAt_ok T.d_counting_ends sc_counting_ends (fun vs H Q E h => ?_) (fun f cdv A outer st H vs Q E hr h => ?_)
  · obtain ⟨v, l, rfl, _⟩ := h; rfl
  · obtain ⟨v, l, rfl, hL, hl30, k⟩ := h
    have hu := hu_of hr
    obtain ⟨a, dx, ti, tt, tr, ws, rfl, ha, hi, ho, htr, htw⟩ := id hL
    refine ⟨_, (pss_cons (ps_set (i := 1) sc_counting_ends.nd rfl (by first | exact Or.inl rfl | exact Or.inr rfl) pe_dnewK)
        (pss_cons (ps_for PassesOwn.never rfl (pi_tup (pe_fld (pv 0) rfl)) (pg_name (i := 2) sc_counting_ends.nd rfl (by first | exact Or.inl rfl | exact Or.inr rfl)) (pss_one (ps_if (pt_val (pe_callB (call_isO2 T.is_Timer T.is_Counter) (by rfl) T.z_isinstance (by decide +kernel) (pa_cons (pe_fld (pv 2) rfl) (pa_cons (pe_tup (pa_cons (pe_cls T.c_Timer) (pa_cons (pe_cls T.c_Counter) pa_nil))) pa_nil)))) (pss_one (ps_dput hu (pv 1) (pe_fld (pe_fld (pv 2) rfl) rfl) (pe_fld (pv 2) rfl) rfl)) pss_nil)))
        (pss_one (ps_ret (pv 1))))), ?_⟩
    walk_at "rd"
    intro d nd
    have s1 := Same.new (o := .dK []) nd
    have hd1 := upd_same (H := H) (a := d) (o := .dK [])
    show tFor _ _ _ _ [some (.ref a), some (.ref d), none] (upd H d (.dK []))
    generalize upd H d (.dK []) = H1 at s1 hd1 ⊢
    have htrT : ∀ {H'}, Same H H' → SqT K H' tr ws := fun s => htr.elim (fun e => SqT.of (s _ _ e)) fun h => h _
    have hlen := htw.length
    refine ⟨_, rfl, a, _, dx, _, _, rfl, s1 _ _ ha, T.wk.lad.c_Ladder.cl, T.wk.lad.nr_ld, lkL3, tr, rfl, ⟨_, htrT s1⟩, for_it walk_tup (fun i σ H' => ∃ (v2 : Option V) (kvs : List (Str × V)), σ = [some (.ref a), some (.ref d), v2] ∧ Same H H' ∧ H' d = some (.dK (dL id kvs)) ∧ EndsD cs.ce H' (ctE (l.rs.take i)) kvs) ⟨none, [], rfl, s1, hd1, rfl, fun n e h => by cases h⟩ (fun i σ H' _ ⟨_, _, _, s, _⟩ => htrT s) ?_ ?_⟩
    · rintro i y σ H2' H2 hi ⟨v2, kvs, rfl, s2, hd2, hE⟩ ⟨rfl, hy⟩
      obtain ⟨r, hr', ar, dr, pv, ev, rfl, hrg, _, hee⟩ := htw.at hy
      obtain ⟨ea, de, rfl, hea⟩ := hee
      have hir := (List.getElem?_eq_some_iff.mp hr').1
      have lc := ctE_len (l.rs.take i)
      rw [List.length_take] at lc
      have lk : kvs.length ≤ 30 := by
        have h1 := congrArg List.length hE.1
        rw [len_keys, len_keys] at h1
        omega
      rw [List.take_succ, hr']
      walk_at "rd"
      refine ⟨_, rfl, ar, _, dr, _, _, rfl, s2 _ _ hrg, T.wk.lad.c_Rung.cl, T.wk.lad.ne_rg, lkR2, line_ge (by decide), fun t nt => ?_⟩
      have t3 := Same.new (o := .tup [.ref cs.ce.timer, .ref cs.ce.counter]) nt
      have s3 := s2.trans t3
      have hd3 := t3 _ _ hd2
      have he3 := s3 _ _ hea
      have hE3 : EndsD cs.ce (upd H2 t (.tup [.ref cs.ce.timer, .ref cs.ce.counter])) (ctE (l.rs.take i)) kvs := ⟨hE.1, fun n e h => let ⟨v, h1, h2⟩ := hE.2 n e h; ⟨v, h1, h2.mono (Same.imm t3)⟩⟩
      refine ⟨ea, t, _, de, _, _, rfl, upd_same, he3, ⟨_, ⟨r.e.k, rfl, rfl⟩, _, ⟨r.e.k, rfl, rfl⟩, rfl⟩, _, rfl, ?_⟩
      show ite _ _ (_ ∧ ∃ x, _ ∧ EndsD _ _ (ctE (l.rs.take i ++ [r])) x)
      rw [k_counts, ctE_snoc]
      cases hc : r.e.k.counts with
      | false => exact iteF ⟨s3, kvs, hd3, by rw [if_neg (by decide)]; exact hE3⟩
      | true =>
        refine iteT ⟨_, rfl, ar, _, dr, _, _, rfl, s3 _ _ hrg, T.wk.lad.c_Rung.cl, T.wk.lad.ne_rg, lkR2, _, rfl, _, rfl, ar, _, dr, _, _, rfl, s3 _ _ hrg, T.wk.lad.c_Rung.cl, T.wk.lad.ne_rg, lkR2, ea, _, de, _, _, rfl, he3, T.wk.lad.enk.ends.cls _, T.wk.lad.enk.ends.nn _, E_name _, d, _, rfl, DPut.k (k := .inr r.e.n) hd3 (by rw [dL_len, sizeLine_eq]; omega), ?_⟩
        have ep : putK (dL id kvs) (Sum.inr r.e.n : Key) (V.ref ea) = dL id (putL kvs r.e.n (V.ref ea)) := dL_put
        rw [ep]
        refine ⟨_, rfl, Same.mut s3 nd, putL kvs r.e.n (V.ref ea), upd_same, ?_⟩
        show EndsD _ _ (ctE (l.rs.take i ++ [r])) _
        rw [ctE_snoc, if_pos hc]
        have im : Imm cs.ce.has (upd H2 t (.tup [.ref cs.ce.timer, .ref cs.ce.counter])) (upd (upd H2 t (.tup [.ref cs.ce.timer, .ref cs.ce.counter])) d (.dK (dL id (putL kvs r.e.n (V.ref ea))))) := Imm.mut hd3 id
        have pe : IsE cs.ce (upd H2 t (.tup [.ref cs.ce.timer, .ref cs.ce.counter])) (.ref ea) r.e := ⟨ea, de, rfl, he3⟩
        refine ⟨?_, fun n e h => ?_⟩
        · by_cases hk : r.e.n ∈ keysL kvs
          · rw [keys_put hk, keys_put (by rw [← hE.1]; exact hk)]
            exact hE.1
          · rw [keys_put_new hk, keys_put_new (by rw [← hE.1]; exact hk), hE.1]
        · rw [getL_put] at h ⊢
          by_cases hn : n = r.e.n
          · rw [if_pos hn] at h ⊢
            cases h
            exact ⟨_, rfl, pe.mono im⟩
          · rw [if_neg hn] at h ⊢
            obtain ⟨v, h1, h2⟩ := hE3.2 n e h
            exact ⟨v, h1, h2.mono im⟩
    rintro σ H2 ⟨v2, kvs, rfl, s2, hd2, hE⟩
    rw [hlen, List.take_length] at hE
    walk_at "rd"
    exact k H2 d kvs s2 nd hd2 hE
theorem EndsD.keep {ce : Ce} {H H' : Hp} {l : List (Str × EndC)} {kvs : List (Str × V)} (h : EndsD ce H l kvs) (s : Same H H') : EndsD ce H' l kvs := ⟨h.1, fun n e q => let ⟨v, h1, h2⟩ := h.2 n e q; ⟨v, h1, h2.mono (Same.imm s)⟩⟩
theorem EndsD.none {ce : Ce} {H : Hp} {l : List (Str × EndC)} {kvs : List (Str × V)} (h : EndsD ce H l kvs) {n : Str} (e : getL l n = none) : getL kvs n = none := by
  cases hk : getL kvs n with
  | none => rfl
  | some v =>
    have h1 : n ∈ keysL kvs := getL_mem.mp ⟨v, hk⟩
    rw [h.1] at h1
    obtain ⟨x, hx⟩ := getL_mem.mpr h1
    rw [e] at hx
    cases hx
def spBitsOf (cs : Cs) : Sp := fun vs H Q _ => ∃ (d : Addr) (n : Str) (rs : List Rg) (kvs : List (Str × V)), vs = [.ref d, .str n] ∧ H d = some (.dK (dL id kvs)) ∧ EndsD cs.ce H (ctE rs) kvs ∧ Q (.int (bitsOf rs n : Nat)) H
theorem ok_bitsOf (T : TStates K mg cs cc xc cw) : FnAt P w K mg base CX0 "bits_of" 1 ["ends", "name"] (spBitsOf cs) := by
  refine fnAt_ok T.d_bits_of sc_bits_of (fun vs H Q E h => ?_) (fun f cdv A outer st H vs Q E hr h => ?_)
  · obtain ⟨d, n, rs, kvs, rfl, _⟩ := h; rfl
  · obtain ⟨d, n, rs, kvs, rfl, hd, hE, k⟩ := h
    have hu := hu_of hr
    refine ⟨_, (pss_cons (ps_if (pt_cmp (pc_dnotin hu (pv 1) (pv 0))) (pss_one (ps_ret pe_int)) pss_nil)
        (pss_one (ps_ret (pe_op op_add (pe_gc T.g_COUNT_BITS) (pe_callTy call_int1 (by rfl) T.z_int (show PySem.bootBuiltins "int" = some (.type "int") by decide +kernel) (pa_cons (pe_callB (call_isO T.is_Counter) (by rfl) T.z_isinstance (by decide +kernel) (pa_cons (pe_dget (by exact hu) (pv 0) (pv 1) (fun _ _ => rfl)) (pa_cons (pe_cls T.c_Counter) pa_nil))) pa_nil)))))), ?_⟩
    walk_at "rd"
    refine ⟨_, rfl, _, rfl, d, _, rfl, DGet.k (k := .inr n) hd, _, rfl, ?_⟩
    rw [dL_get]
    unfold bitsOf at k
    cases hg : getL (ctE rs) n with
    | none =>
      rw [hg] at k
      rw [hE.none hg]
      exact iteT k
    | some e =>
      rw [hg] at k
      obtain ⟨v, hv, ea, de, rfl, hea⟩ := hE.2 n e hg
      rw [hv]
      refine iteF ⟨_, rfl, _, rfl, d, .ref ea, rfl, .inl ⟨_, .inr n, .inl hd, rfl, by rw [dL_get, hv]; rfl⟩, ea, _, de, _, _, rfl, hea, ⟨e.k, rfl, rfl⟩, .inr ⟨_, rfl, ?_⟩⟩
      dsimp only at k
      by_cases hk : e.k = .counter
      · rw [if_pos (decide_eq_true hk)]
        rw [if_pos hk] at k
        exact k
      · rw [if_neg (by rw [decide_eq_false hk]; decide)]
        rw [if_neg hk] at k
        exact k
def spWidth (K : PySem.W.Frag) (cs : Cs) : Sp := fun vs H Q _ => ∃ (v : V) (l : Lad), vs = [v] ∧ IsL K cs H v l ∧ l.rs.length ≤ 30 ∧ ∀ H' : Hp, Same H H' → Q (.int (widthL l.rs (writ l.rs) : Nat)) H'
theorem ok_width (T : TStates K mg cs cc xc cw) : FnAt P w K mg base CX0 "width" 2 ["ladder"] (spWidth K cs) := by
  have G_counting_ends := ok_endsD (P := P) (w := w) (base := base) T
  have G_bits_of := ok_bitsOf (P := P) (w := w) (base := base) T
  have G_written_names : DispAt P w K mg base CX0 (fun C => C = cs.ld) "written_names" 1 ["self"] (fun _ => spWrit K cs) := disp_written T.wk.lad
  refine fnAt_ok T.d_width sc_width (fun vs H Q E h => ?_) (fun f cdv A outer st H vs Q E hr h => ?_)
  · obtain ⟨v, l, rfl, _⟩ := h; rfl
  · obtain ⟨v, l, rfl, hL, hl30, k⟩ := h
    have hu := hu_of hr
    refine ⟨_, (pss_cons (ps_set (i := 1) sc_width.nd rfl (by first | exact Or.inl rfl | exact Or.inr rfl) (pe_callF G_counting_ends hr pass0 (pa_cons (pv 0) pa_nil)))
        (pss_one (ps_ret (pe_callB (cr_sum rfl) (by rfl) T.z_sum (by decide +kernel) (pa_cons (pe_lc (own := [("name", 2)]) (g := gName 2) (tt := tYes) rfl sc_width.nd (pi_tup (pe_methD0 G_written_names hr pass0 (pv 0))) (blkOk_by (own := [("name", 2)]) (N := ["ladder", "ends", "name"]) (sc := defScope s_width) (by decide +kernel)) (fun _ _ _ _ _ => pg_name (i := 2) sc_width.nd rfl (Or.inl rfl)) (fun _ _ _ _ _ => pts_nil) (fun _ _ _ _ _ => (pe_callF G_bits_of hr pass0 (pa_cons (pv 1) (pa_cons (pv 2) pa_nil))))) pa_nil))))), ?_⟩
    walk_at "rd"
    obtain ⟨a, dx, ti, tt, tr, ws, rfl, ha, hi, ho, htr, htw⟩ := id hL
    refine ⟨.ref a, l, rfl, hL, hl30, fun H1 d kvs s1 _ hd hE => ?_⟩
    refine ⟨_, rfl, a, _, dx, _, rfl, s1 _ _ ha, rfl, lkLw, .ref a, l, rfl, hL.mono (Same.imm s1), by omega, fun H2 tw s2 htw => ⟨tw, rfl, ⟨_, SqT.of htw⟩, fun D nD => lc_it walk_tup (fun i H' => Same H2 H' ∧ H' D = some (.lst (((writ l.rs).take i).map fun n => V.int (bitsOf l.rs n : Nat)))) ⟨Same.new nD, upd_same⟩ (fun i H' _ z => SqT.of (z.1 _ _ htw)) ?_ ?_⟩⟩
    · rintro i y H3' H3 hi ⟨s3, hD⟩ ⟨rfl, hy⟩
      rw [List.getElem?_map] at hy
      obtain ⟨n, hn, rfl⟩ := Option.map_eq_some_iff.mp hy
      have s13 := s2.trans s3
      have hwl := writ_len l.rs
      have hil := (List.getElem?_eq_some_iff.mp hn).1
      refine ⟨rfl, ?_⟩
      walk_at "rd"
      unfold tYes
      refine iteT ⟨d, n, l.rs, kvs, rfl, s13 _ _ hd, hE.keep s13, _, hD, by rw [List.length_map, List.length_take, sizeLine_eq]; omega, Same.mut s3 nD, ?_⟩
      rw [upd_same, List.take_succ, hn, List.map_append]
      rfl
    rintro H3 ⟨s3, hD⟩
    rw [List.length_map, List.take_length] at hD
    refine ⟨D, (writ l.rs).map fun n => ((bitsOf l.rs n : Nat) : Int), rfl, SqL.of (by rw [hD, List.map_map]; rfl), ?_⟩
    rw [sum_castS]
    exact k H3 ((s1.trans s2).trans s3)
def spStateOf (K : PySem.W.Frag) (cs : Cs) (cw : Addr) : Sp := fun vs H Q _ => ∃ (x dx b c s : Addr) (lv : V) (u : Ws) (l : Lad), vs = [.ref x] ∧ H x = some (.ins cw dx (wkF lv b c s)) ∧ IsL K cs H lv l ∧ Tri H b c s u ∧ Fits l u ∧ l.fair = true ∧ CntOk u ∧ NumOk l.rs (keptW l u) ∧
  ∀ H' : Hp, Same H H' → Q (.int (stateL l.rs (keptW l u) (writ l.rs) : Nat)) H'
theorem ok_stateOf (T : TStates K mg cs cc xc cw) : FnAt P w K mg base CX0 "state_of" 3 ["works"] (spStateOf K cs cw) := by
  have G_counting_ends := ok_endsD (P := P) (w := w) (base := base) T
  have G_bits_of := ok_bitsOf (P := P) (w := w) (base := base) T
  have G_kept := disp_kept (P := P) (w := w) (base := base) T.kept
  have G_written_names : DispAt P w K mg base CX0 (fun C => C = cs.ld) "written_names" 1 ["self"] (fun _ => spWrit K cs) := disp_written T.wk.lad
  refine fnAt_ok T.d_state_of sc_state_of (fun vs H Q E h => ?_) (fun f cdv A outer st H vs Q E hr h => ?_)
  · obtain ⟨x, dx, b, c, s, lv, u, l, rfl, _⟩ := h; rfl
  · obtain ⟨x, dx, b, c, s, lv, u, l, rfl, hx, hL, ht, hfit, hfair, hcnt, hnum, k⟩ := h
    have hu := hu_of hr
    obtain ⟨f1, f2, f3, f4, f5, f6, f7, f8, f9⟩ := (fair_iff l).mp hfair
    refine ⟨_, (pss_cons (ps_asg (pe_methD0 G_kept hr pass0 (pv 0)) (pg_tup rfl (pgs_cons (pg_name (i := 1) sc_state_of.nd rfl (by first | exact Or.inl rfl | exact Or.inr rfl)) (pgs_cons (pg_name (i := 2) sc_state_of.nd rfl (by first | exact Or.inl rfl | exact Or.inr rfl)) (pgs_cons (pg_name (i := 3) sc_state_of.nd rfl (by first | exact Or.inl rfl | exact Or.inr rfl)) pgs_nil)))))
        (pss_cons (ps_set (i := 4) sc_state_of.nd rfl (by first | exact Or.inl rfl | exact Or.inr rfl) (pe_callF G_counting_ends hr pass0 (pa_cons (pe_fld (pv 0) rfl) pa_nil)))
        (pss_cons (ps_set (i := 5) sc_state_of.nd rfl (by first | exact Or.inl rfl | exact Or.inr rfl) pe_int)
        (pss_cons (ps_set (i := 6) sc_state_of.nd rfl (by first | exact Or.inl rfl | exact Or.inr rfl) pe_int)
        (pss_cons (ps_for PassesOwn.never rfl (pi_tup (pe_methD0 G_written_names hr pass0 (pe_fld (pv 0) rfl))) (pg_name (i := 7) sc_state_of.nd rfl (by first | exact Or.inl rfl | exact Or.inr rfl)) (pss_cons (ps_set (i := 8) sc_state_of.nd rfl (by first | exact Or.inl rfl | exact Or.inr rfl) (pe_callTy call_int1 (by rfl) T.z_int (show PySem.bootBuiltins "int" = some (.type "int") by decide +kernel) (pa_cons (pe_dget (by exact hu) (pv 1) (pv 7) (fun _ _ => rfl)) pa_nil)))
          (C8.pss_cut (ps_if (pt_cmp (pc_din hu (pv 7) (pv 2))) (pss_one (ps_set (i := 8) sc_state_of.nd rfl (by first | exact Or.inl rfl | exact Or.inr rfl) (pe_op op_or (pe_dget (by exact hu) (pv 2) (pv 7) (fun _ _ => rfl)) (pe_op op_shl (pe_callTy call_int1 (by rfl) T.z_int (show PySem.bootBuiltins "int" = some (.type "int") by decide +kernel) (pa_cons (pe_dget2 hu (pv 3) (pv 7) pe_bl (by constructor <;> rfl)) pa_nil)) (pe_gc T.g_COUNT_BITS))))) pss_nil)
          (pss_cons (ps_set (i := 5) sc_state_of.nd rfl (by first | exact Or.inl rfl | exact Or.inr rfl) (pe_op op_or (pv 5) (pe_op op_shl (pv 8) (pv 6))))
          (pss_one (ps_aug (i := 6) sc_state_of.nd rfl (by first | exact Or.inl rfl | exact Or.inr rfl) (pe_callF G_bits_of hr pass0 (pa_cons (pv 4) (pa_cons (pv 7) pa_nil))) iop_add))))))
        (pss_one (ps_ret (pv 5)))))))), ?_⟩
    walk_at "rd"
    obtain ⟨a, dl, ti, tt, tr, ws, rfl, ha, hi, ho, htr, htw⟩ := id hL
    refine ⟨_, rfl, x, cw, dx, _, rfl, hx, rfl, lkWn (by decide +kernel), x, dx, b, c, s, .ref a, u, l, rfl, hx, hL, ht, hfit, hfair, fun H1 t b' c' s' wd nt htp => ?_⟩
    have kf := keptW_fits hfit
    refine ⟨t, _, rfl, SqT.of htp, rfl, ?_⟩
    walk_at "rd"
    refine ⟨_, rfl, x, _, dx, _, _, rfl, wd.same _ _ hx, T.wk.c_Works.cl, T.wk.nl_wk, lkW1, .ref a, l, rfl, hL.mono (Same.imm wd.same), f5.2, fun H2 d kvs s2 _ hd hE => ?_⟩
    have s02 := wd.same.trans s2
    refine ⟨_, rfl, x, _, dx, _, _, rfl, s02 _ _ hx, T.wk.c_Works.cl, T.wk.nl_wk, lkW1, a, _, dl, _, rfl, s02 _ _ ha, rfl, lkLw, .ref a, l, rfl, hL.mono (Same.imm s02), by omega, fun H3 tw s3 htw3 => ⟨tw, rfl, ⟨_, SqT.of htw3⟩, for_it walk_tup (fun i σ H' => ∃ v7 v8 : Option V, σ = [some (.ref x), some (.ref b'), some (.ref c'), some (.ref s'), some (.ref d), some (.int (stateL l.rs (keptW l u) ((writ l.rs).take i) : Nat)), some (.int (widthL l.rs ((writ l.rs).take i) : Nat)), v7, v8] ∧ H' = H3) ⟨none, none, rfl, rfl⟩ (fun i σ H' _ ⟨_, _, _, e⟩ => by rw [e]; exact SqT.of htw3) ?_ ?_⟩⟩
    · rintro i y σ H4' H4 hi' ⟨v7, v8, rfl, rfl⟩ ⟨rfl, hy⟩
      rw [List.getElem?_map] at hy
      obtain ⟨n, hn, rfl⟩ := Option.map_eq_some_iff.mp hy
      have hnw := List.mem_of_getElem? hn
      have s13 := s2.trans s3
      have tri3 := wd.tri.keep s13
      obtain ⟨bv, hbv⟩ := getL_mem.mpr (show n ∈ keysL (keptW l u).bits by rw [kf.kb]; exact hnw)
      have hnl := hnum n hnw
      have hp5 : 2 ^ bitsOf l.rs n ≤ 2 ^ 5 := Nat.pow_le_pow_right (by decide) (bitsOf_le _ _).2
      walk_at "rd"
      refine ⟨_, rfl, _, rfl, b', .bl bv, rfl, .inl ⟨_, .inr n, .inl tri3.hb, rfl, by rw [dL_get, hbv]; rfl⟩, .inr ⟨_, rfl, ?_⟩⟩
      refine ⟨fun σ' H' => σ' = [some (.ref x), some (.ref b'), some (.ref c'), some (.ref s'), some (.ref d), some (.int (stateL l.rs (keptW l u) ((writ l.rs).take i) : Nat)), some (.int (widthL l.rs ((writ l.rs).take i) : Nat)), some (.str n), some (.int (numOf (keptW l u) n : Nat))] ∧ H' = H4, ?_, ?_⟩
      · walk_at "rd"
        refine ⟨_, rfl, _, rfl, c', _, rfl, DGet.k (k := .inr n) tri3.hc, _, rfl, ?_⟩
        rw [dL_get]
        cases hc : getL (keptW l u).cnt n with
        | none =>
          refine iteF ⟨?_, rfl⟩
          have hnk : n ∉ keysL (keptW l u).cnt := fun h => by
            obtain ⟨z, hz⟩ := getL_mem.mpr h
            rw [hc] at hz
            cases hz
          have hb : (keptW l u).bitOf n = bv := by unfold Ws.bitOf; rw [hbv]; rfl
          unfold numOf
          rw [if_neg hnk, hb]
          cases bv <;> rfl
        | some v =>
          have hcv := hcnt n v hc
          refine iteT ⟨_, rfl, _, rfl, c', .int v, rfl, .inl ⟨_, .inr n, .inl tri3.hc, rfl, by rw [dL_get, hc]; rfl⟩, ?_⟩
          have hnk : n ∈ keysL (keptW l u).cnt := getL_mem.mp ⟨v, hc⟩
          have hcn : (keptW l u).cntOf n = v := by unfold Ws.cntOf; rw [hc]; rfl
          have es : ((getL (keptW l u).seen n).map V.bl).getD (.bl false) = .bl ((keptW l u).seenOf n) := by
            unfold Ws.seenOf
            cases getL (keptW l u).seen n <;> rfl
          refine ⟨_, rfl, s', rfl, .inl ⟨_, .inl tri3.hs⟩, _, rfl, _, DGet.k (k := .inr n) tri3.hs, .inr ⟨(keptW l u).seenOf n, by rw [dL_get]; exact es, ⟨by decide, by decide, by split <;> decide⟩, v, rfl, ?_, rfl⟩⟩
          show Builtin.bitOr v ((if (keptW l u).seenOf n = true then (1 : Int) else 0) * 2 ^ 4) = _
          rw [Bits.bitOr_join hcv.1 (by have := hcv.2; omega) (by split <;> decide)]
          unfold numOf
          rw [if_pos hnk, hcn]
          have := hcv.1
          split <;> omega
      rintro σ' H' ⟨rfl, rfl⟩
      walk_at "rd"
      have hwle := widthL_le l.rs ((writ l.rs).take i)
      have hwl := writ_len l.rs
      rw [List.length_take] at hwle
      have hlt := stateL_lt l.rs (keptW l u) ((writ l.rs).take i) fun z hz => hnum z (List.mem_of_mem_take hz)
      have etk : (writ l.rs).take (i + 1) = (writ l.rs).take i ++ [n] := by rw [List.take_succ, hn]; rfl
      refine ⟨⟨by omega, by omega, by omega⟩, d, n, l.rs, kvs, rfl, s3 _ _ hd, hE.keep s3, _, rfl, _, _, ⟨?_, ?_, rfl, rfl⟩, rfl⟩
      · rw [Int.toNat_natCast, Bits.bitOr_join (by omega) (by exact_mod_cast hlt) (by omega), etk, stateL_snoc]
        push_cast
        rfl
      · rw [etk, widthL_snoc]
        push_cast
        rfl
    rintro σ H4 ⟨v7, v8, rfl, rfl⟩
    rw [List.length_map, List.take_length]
    walk_at "rd"
    exact k _ (s02.trans s3)
def spPieces (K : PySem.W.Frag) (cs : Cs) (xc : Xc) : Sp := fun vs H Q E => ∃ (v : V) (l : Lad) (st : Int), vs = [v, .int st] ∧ IsL K cs H v l ∧ l.rs.length ≤ 30 ∧
  (∀ m : Nat, st = (m : Int) → m < 2 ^ widthL l.rs (writ l.rs) → ∀ (H' : Hp) (d : Addr), Same H H' → H d = none → H' d = some (.dK (dL V.int (pieceL l.rs m (writ l.rs)))) → Q (.ref d) H') ∧
  (¬ (0 ≤ st ∧ st < 2 ^ widthL l.rs (writ l.rs)) → ∀ H', Same H H' → E (.ref xc.state) none H')
theorem ok_pieces (T : TStates K mg cs cc xc cw) : FnAt P w K mg base (L2.CX P w) "pieces" 3 ["ladder", "state"] (spPieces K cs xc) := by
  have G_counting_ends := ok_endsD (P := P) (w := w) (base := base) T
  have G_bits_of := ok_bitsOf (P := P) (w := w) (base := base) T
  have G_width := ok_width (P := P) (w := w) (base := base) T
  have e_NoState := T.exs.e_state
  have G_written_names : DispAt P w K mg base CX0 (fun C => C = cs.ld) "written_names" 1 ["self"] (fun _ => spWrit K cs) := disp_written T.wk.lad
  refine fnAt_okX T.d_pieces sc_pieces (fun vs H Q E h => ?_) (fun f cdv A outer st H vs Q E hr h => ?_)
  · obtain ⟨v, l, st, rfl, _⟩ := h; rfl
  · obtain ⟨v, l, stt, rfl, hL, hl30, k, kx⟩ := h
    have hu := hu_of hr
    obtain ⟨a, dl, ti, tt, tr, ws, rfl, ha, hi, ho, htr, htw⟩ := id hL
    refine ⟨_, (C8.pss_cut (ps_if (PW.pt (pw_or (pt_cmpR op_lt (pv 1) pe_int (nomark _)) (pw_or1 (pt_cmpR op_ne (pe_op op_shr (pv 1) (pe_callF G_width hr pass0 (pa_cons (pv 0) pa_nil))) pe_int (nomark _))))) (pss_one (ps_raiseO rfl e_NoState (L2.takes_of rfl rfl rfl rfl))) pss_nil)
        (pss_cons (ps_set (i := 2) sc_pieces.nd rfl (by first | exact Or.inl rfl | exact Or.inr rfl) (pe_callF G_counting_ends hr pass0 (pa_cons (pv 0) pa_nil)))
        (pss_cons (ps_set (i := 3) sc_pieces.nd rfl (by first | exact Or.inl rfl | exact Or.inr rfl) pe_dnewK)
        (pss_cons (ps_for (L2.passes_of rfl) rfl (pi_tup (pe_methD0 G_written_names hr pass0 (pv 0))) (pg_name (i := 4) sc_pieces.nd rfl (by first | exact Or.inl rfl | exact Or.inr rfl)) (pss_cons (ps_set (i := 5) sc_pieces.nd rfl (by first | exact Or.inl rfl | exact Or.inr rfl) (pe_callF G_bits_of hr pass0 (pa_cons (pv 2) (pa_cons (pv 4) pa_nil))))
          (pss_cons (ps_dput hu (pv 3) (pv 4) (pe_op op_and (pv 1) (pe_op op_sub (pe_op op_shl pe_int (pv 5)) pe_int)) rfl)
          (pss_one (ps_set (i := 1) sc_pieces.nd rfl (by first | exact Or.inl rfl | exact Or.inr rfl) (pe_op op_shr (pv 1) (pv 5)))))))
        (pss_one (ps_ret (pv 3))))))), ?_⟩
    refine ⟨fun σ' H' => ∃ m : Nat, stt = (m : Int) ∧ m < 2 ^ widthL l.rs (writ l.rs) ∧ σ' = [some (.ref a), some (.int stt), none, none, none, none] ∧ Same H H', ?_, ?_⟩
    · walk_at "rd"
      by_cases h0 : stt < 0
      · rw [decide_eq_true h0]
        exact iteT (kx (fun z => by omega) H (Same.refl _))
      · rw [decide_eq_false h0]
        obtain ⟨m, rfl⟩ := Int.eq_ofNat_of_zero_le (show 0 ≤ stt by omega)
        refine iteF ⟨.ref a, l, rfl, hL, hl30, fun H1 s1 => ⟨_, rfl, Int.natCast_nonneg _, ?_⟩⟩
        have ec : ((2 ^ widthL l.rs (writ l.rs) : Nat) : Int) = (2 : Int) ^ widthL l.rs (writ l.rs) := by push_cast; rfl
        rw [Int.toNat_natCast, ← ec]
        by_cases hm : m < 2 ^ widthL l.rs (writ l.rs)
        · rw [decide_eq_true (show (m : Int) / ((2 ^ widthL l.rs (writ l.rs) : Nat) : Int) = 0 by exact_mod_cast Nat.div_eq_of_lt hm)]
          exact iteF ⟨m, rfl, hm, s1⟩
        · have hp : 0 < m / 2 ^ widthL l.rs (writ l.rs) := Nat.div_pos (by omega) (Nat.two_pow_pos _)
          rw [decide_eq_false (show ¬ (m : Int) / ((2 ^ widthL l.rs (writ l.rs) : Nat) : Int) = 0 by
            intro e
            have e2 : ((m / 2 ^ widthL l.rs (writ l.rs) : Nat) : Int) = 0 := by exact_mod_cast e
            omega)]
          refine iteT (kx (fun z => ?_) H1 s1)
          rw [← ec] at z
          omega
    rintro σ' H1 ⟨m, rfl, hm, rfl, s1⟩
    walk_at "rd"
    refine ⟨.ref a, l, rfl, hL.mono (Same.imm s1), hl30, fun H2 d kvs s2 nd hd hE => ?_⟩
    have s02 := s1.trans s2
    intro p np
    have np0 : H p = none := s02.free np
    have hp3 := upd_same (H := H2) (a := p) (o := .dK [])
    have t3 := Same.new (o := .dK []) np
    show tFor _ _ _ _ [some (.ref a), some (.int m), some (.ref d), some (.ref p), none, none] (upd H2 p (.dK []))
    generalize upd H2 p (.dK []) = H3 at hp3 t3 ⊢
    have s03 := s02.trans t3
    refine ⟨_, rfl, a, _, dl, _, rfl, s03 _ _ ha, rfl, lkLw, .ref a, l, rfl, hL.mono (Same.imm s03), by omega, fun H4 tw s4 htw4 => ⟨tw, rfl, ⟨_, SqT.of htw4⟩, for_it walk_tup (fun i σ H' => ∃ v4 v5 : Option V, σ = [some (.ref a), some (.int ((m / 2 ^ widthL l.rs ((writ l.rs).take i) : Nat) : Int)), some (.ref d), some (.ref p), v4, v5] ∧ Same H2 H' ∧ H' tw = some (.tup ((writ l.rs).map V.str)) ∧ H' p = some (.dK (dL V.int (pieceL l.rs m ((writ l.rs).take i))))) ⟨none, none, by simp [widthL], t3.trans s4, htw4, s4 _ _ hp3⟩ (fun i σ H' _ ⟨_, _, _, _, e, _⟩ => SqT.of e) ?_ ?_⟩⟩
    · rintro i y σ H5' H5 hi' ⟨v4, v5, rfl, s5, htw5, hp5⟩ ⟨rfl, hy⟩
      rw [List.getElem?_map] at hy
      obtain ⟨n, hn, rfl⟩ := Option.map_eq_some_iff.mp hy
      walk_at "rd"
      refine ⟨d, n, l.rs, kvs, rfl, s5 _ _ hd, hE.keep s5, ?_⟩
      have hil := (List.getElem?_eq_some_iff.mp hn).1
      have hwl := writ_len l.rs
      have hb := bitsOf_le l.rs n
      have etk : (writ l.rs).take (i + 1) = (writ l.rs).take i ++ [n] := by rw [List.take_succ, hn]; rfl
      have hlen : (pieceL l.rs m ((writ l.rs).take i)).length ≤ 30 := by
        have h1 := congrArg List.length (pieceL_keys l.rs ((writ l.rs).take i) m)
        rw [len_keys, List.length_take] at h1
        omega
      have hnew : n ∉ keysL (pieceL l.rs m ((writ l.rs).take i)) := by
        rw [pieceL_keys]
        intro hm'
        have nd := writ_nodup l.rs
        have hsp : (writ l.rs).take i ++ (writ l.rs).drop i = writ l.rs := List.take_append_drop i _
        obtain ⟨hi1, hg⟩ := List.getElem?_eq_some_iff.mp hn
        rw [← hsp, List.nodup_append] at nd
        exact nd.2.2 n hm' n (by rw [List.drop_eq_getElem_cons hi1, hg]; exact List.mem_cons_self) rfl
      have ev : Builtin.bitAnd ((m / 2 ^ widthL l.rs ((writ l.rs).take i) : Nat) : Int) (1 * 2 ^ ((bitsOf l.rs n : Nat) : Int).toNat - 1) = ((m / 2 ^ widthL l.rs ((writ l.rs).take i) % 2 ^ bitsOf l.rs n : Nat) : Int) := by
        rw [Int.toNat_natCast, Int.one_mul, Bits.bitAnd_mask _ (Int.natCast_nonneg _)]
        push_cast
        rfl
      refine ⟨_, rfl, _, rfl, _, _, rfl, rfl, ⟨by omega, by omega, by decide⟩, _, _, rfl, rfl, _, _, rfl, rfl, _, rfl, _, rfl, p, _, rfl, DPut.k (k := .inr n) hp5 (by rw [dL_len, sizeLine_eq]; omega), ?_⟩
      dsimp only
      rw [ev, dL_put, keys_new hnew, ← pieceL_snoc, ← etk]
      refine ⟨_, rfl, _, rfl, _, _, rfl, rfl, Int.natCast_nonneg _, some (.str n), some (.int (bitsOf l.rs n : Nat)), ?_, Same.mut s5 np, by rw [upd_ne (fun e => by rw [e, hp5] at htw5; cases htw5)]; exact htw5, upd_same⟩
      show [some (V.ref a), some (V.int (((m / 2 ^ widthL l.rs ((writ l.rs).take i) : Nat) : Int) / 2 ^ ((bitsOf l.rs n : Nat) : Int).toNat)), some (V.ref d), some (V.ref p), some (V.str n), some (V.int (bitsOf l.rs n : Nat))] = _
      have edv : ((m / 2 ^ widthL l.rs ((writ l.rs).take i) : Nat) : Int) / 2 ^ ((bitsOf l.rs n : Nat) : Int).toNat = ((m / 2 ^ widthL l.rs ((writ l.rs).take (i + 1)) : Nat) : Int) := by
        rw [Int.toNat_natCast, etk, widthL_snoc, Nat.pow_add, ← Nat.div_div_eq_div_mul]
        push_cast
        rfl
      rw [edv]
    rintro σ H5 ⟨v4, v5, rfl, s5, htw5, hp5⟩
    rw [List.length_map, List.take_length] at hp5
    walk_at "rd"
    exact k m rfl hm H5 p (s02.trans s5) np0 hp5
end

--%% ND
/-! ## works of a state -/
abbrev s_works_at : Stmt := top 35
theorem sc_works_at : FnScope ["ladder", "state", "bits", "counts", "saw", "ends", "name", "number", "works"] ["ladder", "state"] (defScope s_works_at) := ⟨rfl, rfl, rfl, by decide +kernel, rfl, by decide +kernel, by decide +kernel⟩
structure TStateAt (K : PySem.W.Frag) (mg : Str → Option Value) (cs : Cs) (cc : Addr) (xc : Xc) (cw : Addr) : Prop where
  st : TStates K mg cs cc xc cw
  d_works_at : DefAt K mg "works_at" s_works_at ["ladder", "state"]
  g_COUNT_BITS : GlobC mg "COUNT_BITS" (.int 4)
  z_isinstance : mg "isinstance" = none
def bitAt (rs : List Rg) (p : Str × Int) : Bool := match getL (ctE rs) p.1 with
  | none => decide (V.int p.2 = V.int 1)
  | some e => decide (V.int (p.2 % 16) = V.int e.m)
def cntAt (rs : List Rg) (p : Str × Int) : Option (Str × Int) := (getL (ctE rs) p.1).map fun _ => (p.1, p.2 % 16)
def seenAt (rs : List Rg) (p : Str × Int) : Option (Str × Bool) := match getL (ctE rs) p.1 with
  | none => none
  | some e => if e.k = .counter then some (p.1, decide (V.int (p.2 / 16) = V.int 1)) else none
def badAt (rs : List Rg) (p : Str × Int) : Bool := match getL (ctE rs) p.1 with
  | none => false
  | some e => decide (e.m < p.2 % 16)
def atW (rs : List Rg) (ps : List (Str × Int)) : Ws := ⟨ps.map fun p => (p.1, bitAt rs p), ps.filterMap (cntAt rs), ps.filterMap (seenAt rs)⟩
theorem EndsD.imm {ce : Ce} {H H' : Hp} {l : List (Str × EndC)} {kvs : List (Str × V)} (h : EndsD ce H l kvs) (s : Imm ce.has H H') : EndsD ce H' l kvs := ⟨h.1, fun n e q => let ⟨v, h1, h2⟩ := h.2 n e q; ⟨v, h1, h2.mono s⟩⟩
theorem put_put {α : Type} {l : List (Str × α)} {n : Str} {x y : α} (h : n ∉ keysL l) : putL (l ++ [(n, x)]) n y = l ++ [(n, y)] := by
  have hm : n ∈ keysL (l ++ [(n, x)]) := by unfold keysL; simp
  unfold putL
  rw [if_pos hm, List.map_append]
  congr 1
  · refine (List.map_congr_left (g := id) fun p hp => ?_).trans (List.map_id _)
    have : p.1 ≠ n := fun e => h (by unfold keysL; exact List.mem_map.mpr ⟨p, hp, e⟩)
    rw [if_neg this]
    rfl
  · simp
theorem atW_snoc (rs : List Rg) (ps : List (Str × Int)) (p : Str × Int) : atW rs (ps ++ [p]) = ⟨(atW rs ps).bits ++ [(p.1, bitAt rs p)], (atW rs ps).cnt ++ (cntAt rs p).toList, (atW rs ps).seen ++ (seenAt rs p).toList⟩ := by
  unfold atW
  rw [List.map_append, List.filterMap_append, List.filterMap_append]
  have h1 : [p].filterMap (cntAt rs) = (cntAt rs p).toList := by cases h : cntAt rs p <;> simp [List.filterMap_cons, h]
  have h2 : [p].filterMap (seenAt rs) = (seenAt rs p).toList := by cases h : seenAt rs p <;> simp [List.filterMap_cons, h]
  rw [h1, h2]
  rfl
theorem ctE_counts (rs : List Rg) : ∀ n e, getL (ctE rs) n = some e → e.k.counts = true := writ_ind (p := fun rs => ∀ n e, getL (ctE rs) n = some e → e.k.counts = true) (fun n e h => by cases h) (fun rs r ih n e h => by
  rw [ctE_snoc] at h
  split at h
  · rename_i hc
    rw [getL_put] at h
    split at h
    · cases h; exact hc
    · exact ih n e h
  · exact ih n e h) rs
theorem piece_pos (rs : List Rg) : ∀ (ns : List Str) (st : Nat), ∀ p ∈ pieceL rs st ns, 0 ≤ p.2
  | [], _, p, h => by cases h
  | n :: ns, st, p, h => by
    rw [pieceL] at h
    rcases List.mem_cons.mp h with rfl | h
    · exact Int.natCast_nonneg _
    · exact piece_pos rs ns _ p h
section
variable {P : Program} {w : World} {K : PySem.W.Frag} {mg : Str → Option Value} {base : Heap} {cs : Cs} {cc : Addr} {xc : Xc} {cw : Addr}
theorem TStateAt.is_Counter (T : TStateAt K mg cs cc xc cw) : Ru.IsT K cs.ce.counter (fun C b => ∃ k : Ek, C = cs.ce.at k ∧ b = decide (k = .counter)) := T.st.is_Counter
theorem TStateAt.c_Counter (T : TStateAt K mg cs cc xc cw) : ClsAt K mg "Counter" cs.ce.counter := T.st.c_Counter
def spWorksAt (K : PySem.W.Frag) (cs : Cs) (xc : Xc) (cw : Addr) : Sp := fun vs H Q E => ∃ (v : V) (l : Lad) (st : Int), vs = [v, .int st] ∧ IsL K cs H v l ∧ l.fair = true ∧
  (∀ m : Nat, st = (m : Int) → m < 2 ^ widthL l.rs (writ l.rs) → (∀ p ∈ pieceL l.rs m (writ l.rs), badAt l.rs p = false) →
    ∀ (H' : Hp) (x dx b c s : Addr), Same H H' → H x = none → H b = none → H c = none → H s = none → H' x = some (.ins cw dx (wkF v b c s)) → Tri H' b c s (overW l (wNew l) (atW l.rs (pieceL l.rs m (writ l.rs)))) → Q (.ref x) H') ∧
  ((¬ ∃ m : Nat, st = (m : Int) ∧ m < 2 ^ widthL l.rs (writ l.rs) ∧ ∀ p ∈ pieceL l.rs m (writ l.rs), badAt l.rs p = false) → ∀ H', Same H H' → E (.ref xc.state) none H')
theorem ok_worksAt (T : TStateAt K mg cs cc xc cw) : FnAt P w K mg base (L2.CX P w) "works_at" 4 ["ladder", "state"] (spWorksAt K cs xc cw) := by
  have G_counting_ends := ok_endsD (P := P) (w := w) (base := base) T.st
  have GX_pieces := ok_pieces (P := P) (w := w) (base := base) T.st
  have M_Works := ok_init_wk (P := P) (w := w) (base := base) T.st.wk
  have G_put_back := disp_back2 (P := P) (w := w) (base := base) T.st.kept
  have e_NoState := T.st.exs.e_state
  refine fnAt_okX T.d_works_at sc_works_at (fun vs H Q E h => ?_) (fun f cdv A outer st H vs Q E hr h => ?_)
  · obtain ⟨v, l, stt, rfl, _⟩ := h; rfl
  · obtain ⟨v, l, stt, rfl, hL, hfair, k, kx⟩ := h
    have hu := hu_of hr
    obtain ⟨a, dl, ti, tt, tr, ws, rfl, ha, hi, ho, htr, htw⟩ := id hL
    obtain ⟨f1, f2, f3, f4, f5, f6, f7, f8, f9⟩ := (fair_iff l).mp hfair
    refine ⟨_, (pss_cons (ps_set (i := 2) sc_works_at.nd rfl (by first | exact Or.inl rfl | exact Or.inr rfl) pe_dnewK)
        (pss_cons (ps_set (i := 3) sc_works_at.nd rfl (by first | exact Or.inl rfl | exact Or.inr rfl) pe_dnewK)
        (pss_cons (ps_set (i := 4) sc_works_at.nd rfl (by first | exact Or.inl rfl | exact Or.inr rfl) pe_dnewK)
        (pss_cons (ps_set (i := 5) sc_works_at.nd rfl (by first | exact Or.inl rfl | exact Or.inr rfl) (pe_callF G_counting_ends hr pass0 (pa_cons (pv 0) pa_nil)))
        (pss_cons (ps_for (L2.passes_of rfl) rfl (pi_items (pe_lockF (pe_callF GX_pieces hr (passX (L2.takes_of rfl rfl rfl rfl)) (pa_cons (pv 0) (pa_cons (pv 1) pa_nil))))) (pg_tup rfl (pgs_cons (pg_name (i := 6) sc_works_at.nd rfl (by first | exact Or.inl rfl | exact Or.inr rfl)) (pgs_cons (pg_name (i := 7) sc_works_at.nd rfl (by first | exact Or.inl rfl | exact Or.inr rfl)) pgs_nil))) (pss_cons (ps_dput hu (pv 2) (pv 6) (pe_cmpR op_eq (pv 7) pe_int (nomark _)) rfl)
          (pss_one (ps_if (pt_cmp (pc_din hu (pv 6) (pv 5))) (pss_cons (ps_dput hu (pv 3) (pv 6) (pe_op op_and (pv 7) (pe_op op_sub (pe_op op_shl pe_int (pe_gc T.g_COUNT_BITS)) pe_int)) rfl)
            (pss_cons (ps_dput hu (pv 2) (pv 6) (pe_cmpR op_eq (pe_dget (by exact hu) (pv 3) (pv 6) (fun _ _ => rfl)) (pe_fld (pe_dget (by exact hu) (pv 5) (pv 6) (fun _ _ => rfl)) rfl) (nomark _)) rfl)
            (pss_cons (ps_if (pt_cmpR op_gt (pe_dget (by exact hu) (pv 3) (pv 6) (fun _ _ => rfl)) (pe_fld (pe_dget (by exact hu) (pv 5) (pv 6) (fun _ _ => rfl)) rfl) (nomark _)) (pss_one (ps_raiseO rfl e_NoState (L2.takes_of rfl rfl rfl rfl))) pss_nil)
            (pss_one (ps_if (pt_val (pe_callB (call_isO T.is_Counter) (by rfl) T.z_isinstance (by decide +kernel) (pa_cons (pe_dget (by exact hu) (pv 5) (pv 6) (fun _ _ => rfl)) (pa_cons (pe_cls T.c_Counter) pa_nil)))) (pss_one (ps_dput hu (pv 4) (pv 6) (pe_cmpR op_eq (pe_op op_shr (pv 7) (pe_gc T.g_COUNT_BITS)) pe_int (nomark _)) rfl)) pss_nil))))) pss_nil))))
        (pss_cons (ps_set (i := 8) sc_works_at.nd rfl (by first | exact Or.inl rfl | exact Or.inr rfl) (pe_makeF M_Works hr pass0 (pa_cons (pv 0) pa_nil)))
        (pss_cons (ps_expr (pe_methD G_put_back hr pass0 (pv 8) (pa_cons (pe_tup (pa_cons (pv 2) (pa_cons (pv 3) (pa_cons (pv 4) pa_nil)))) pa_nil)))
        (pss_one (ps_ret (pv 8)))))))))), ?_⟩
    walk_at "rd"
    intro pb npb
    have sb := Same.new (o := .dK []) npb
    have hb1 := upd_same (H := H) (a := pb) (o := .dK [])
    generalize upd H pb (.dK []) = Hb at sb hb1 ⊢
    intro pc npc
    have sc := Same.new (o := .dK []) npc
    have hb2 := sc _ _ hb1
    have hc2 := upd_same (H := Hb) (a := pc) (o := .dK [])
    have nbc : pb ≠ pc := ne_of_none hb1 npc
    generalize upd Hb pc (.dK []) = Hc at sc hb2 hc2 ⊢
    intro pd npd
    have sd := Same.new (o := .dK []) npd
    have hb3 := sd _ _ hb2
    have hc3 := sd _ _ hc2
    have hd3 := upd_same (H := Hc) (a := pd) (o := .dK [])
    have nbd : pb ≠ pd := ne_of_none hb2 npd
    have ncd : pc ≠ pd := ne_of_none hc2 npd
    have s03 := (sb.trans sc).trans sd
    have nb0 := npb
    have nc0 : H pc = none := sb.free npc
    have nd0 : H pd = none := (sb.trans sc).free npd
    show spEndsD K cs [V.ref a] (upd Hc pd (.dK [])) _ _
    generalize upd Hc pd (.dK []) = H3 at sd hb3 hc3 hd3 s03 ⊢
    refine ⟨.ref a, l, rfl, hL.mono (Same.imm s03), f5.2, fun H4 d kvs s34 nd hd4 hE => ?_⟩
    have s04 := s03.trans s34
    refine ⟨_, rfl, _, rfl, .ref a, l, stt, rfl, hL.mono (Same.imm s04), f5.2, fun m em hm H5 q s45 nq hq => ?_, fun hno H5 s45 => kx (fun ⟨m, e1, e2, _⟩ => hno (by rw [e1]; exact ⟨Int.natCast_nonneg _, by exact_mod_cast e2⟩)) H5 (s04.trans s45)⟩
    subst em
    refine ⟨q, _, rfl, hq, fun od => ?_⟩
    have e4 : Same H4 (upd H5 q (.frz od (.dK (dL V.int (pieceL l.rs m (writ l.rs)))))) := Same.mut s45 nq
    have hqf := upd_same (H := H5) (a := q) (o := .frz od (.dK (dL V.int (pieceL l.rs m (writ l.rs)))))
    have dpb : d ≠ pb := (ne_of_none hb3 nd).symm
    have dpc : d ≠ pc := (ne_of_none hc3 nd).symm
    have dpd : d ≠ pd := (ne_of_none hd3 nd).symm
    have qpb : q ≠ pb := (ne_of_none (s34 _ _ hb3) nq).symm
    have qpc : q ≠ pc := (ne_of_none (s34 _ _ hc3) nq).symm
    have qpd : q ≠ pd := (ne_of_none (s34 _ _ hd3) nq).symm
    have nq0 : H q = none := s04.free nq
    show (fun x H1 => _) (V.ref q) (upd H5 q (.frz od (.dK (dL V.int (pieceL l.rs m (writ l.rs))))))
    generalize upd H5 q (.frz od (.dK (dL V.int (pieceL l.rs m (writ l.rs))))) = F at e4 hqf ⊢
    generalize hPS : pieceL l.rs m (writ l.rs) = PS at k kx hq hqf
    have hkeys : keysL PS = writ l.rs := by rw [← hPS]; exact pieceL_keys _ _ _
    have hnd : (keysL PS).Nodup := by rw [hkeys]; exact writ_nodup _
    have hPl : PS.length ≤ 30 := by
      have h1 := congrArg List.length hkeys
      rw [len_keys] at h1
      have := writ_len l.rs
      omega
    have hpos : ∀ p ∈ PS, 0 ≤ p.2 := by rw [← hPS]; exact piece_pos _ _ _
    refine ⟨q, od, _, rfl, hqf, for_it walk_items (fun i σ H' => ∃ v6 v7 : Option V, σ = [some (.ref a), some (.int m), some (.ref pb), some (.ref pc), some (.ref pd), some (.ref d), v6, v7, none] ∧ Same H H' ∧ H' d = some (.dK (dL id kvs)) ∧ EndsD cs.ce H' (ctE l.rs) kvs ∧ H' q = some (.frz od (.dK (dL V.int PS))) ∧
        H' pb = some (.dK (dL V.bl (atW l.rs (PS.take i)).bits)) ∧ H' pc = some (.dK (dL V.int (atW l.rs (PS.take i)).cnt)) ∧ H' pd = some (.dK (dL V.bl (atW l.rs (PS.take i)).seen)) ∧ ∀ p ∈ PS.take i, badAt l.rs p = false)
      ⟨none, none, rfl, s04.trans e4, e4 _ _ hd4, hE.keep e4, hqf, e4 _ _ (s34 _ _ hb3), e4 _ _ (s34 _ _ hc3), e4 _ _ (s34 _ _ hd3), by simp⟩ (fun i σ H' _ ⟨_, _, _, _, _, _, z, _⟩ => z) ?_ ?_⟩
    · rintro i y σ H6' H6 hi' ⟨v6, v7, rfl, s6, hd6, hE6, hq6, hb6, hc6, hs6, hbad⟩ ⟨T', y1, z, rfl, nT, rfl, hy, hz⟩
      obtain ⟨n, num, hp, rfl, rfl⟩ : ∃ n num, PS[i]? = some (n, num) ∧ y1 = .str n ∧ z = .int num := by
        have hy : ((dL V.int PS)[i]?.map fun kv => kV kv.1) = some y1 := hy
        have hz : ((dL V.int PS)[i]?.map Prod.snd) = some z := hz
        unfold dL at hy hz
        rw [List.getElem?_map, Option.map_map] at hy hz
        obtain ⟨⟨n, num⟩, h1, rfl⟩ := Option.map_eq_some_iff.mp hy
        rw [h1] at hz
        cases hz
        exact ⟨n, num, h1, rfl, rfl⟩
      refine ⟨T', _, rfl, SqT.of upd_same, rfl, ?_⟩
      walk_at "rd"
      have t7 := Same.new (o := .tup [V.str n, .int num]) nT
      have hd7 := t7 _ _ hd6
      have hE7 := hE6.keep t7
      have hq7 := t7 _ _ hq6
      have hb7 := t7 _ _ hb6
      have hc7 := t7 _ _ hc6
      have hs7 := t7 _ _ hs6
      have s7 := s6.trans t7
      show sDPut _ _ _ _ _ (upd H6' T' (.tup [V.str n, .int num]))
      generalize upd H6' T' (.tup [V.str n, .int num]) = H7 at hd7 hE7 hq7 hb7 hc7 hs7 s7 ⊢
      have etk : PS.take (i + 1) = PS.take i ++ [(n, num)] := by rw [List.take_succ, hp]; rfl
      have hnew : n ∉ keysL (PS.take i) := fun hm' => by
        have hsp : PS.take i ++ PS.drop i = PS := List.take_append_drop i _
        obtain ⟨hi1, hg⟩ := List.getElem?_eq_some_iff.mp hp
        have nd2 := hnd
        rw [← hsp] at nd2
        unfold keysL at nd2 hm'
        rw [List.map_append, List.nodup_append] at nd2
        exact nd2.2.2 n hm' n (by rw [List.drop_eq_getElem_cons hi1, hg]; exact List.mem_cons_self) rfl
      have kB : n ∉ keysL (atW l.rs (PS.take i)).bits := fun h => hnew (by
        unfold keysL atW at *
        rw [List.map_map] at h
        exact h)
      have kC : n ∉ keysL (atW l.rs (PS.take i)).cnt := fun h => hnew (by
        unfold keysL atW at *
        obtain ⟨p, hp', e⟩ := List.mem_map.mp h
        obtain ⟨p0, hp0, e0⟩ := List.mem_filterMap.mp hp'
        unfold cntAt at e0
        obtain ⟨_, _, rfl⟩ := Option.map_eq_some_iff.mp e0
        exact List.mem_map.mpr ⟨p0, hp0, e⟩)
      have kS : n ∉ keysL (atW l.rs (PS.take i)).seen := fun h => hnew (by
        unfold keysL atW at *
        obtain ⟨p, hp', e⟩ := List.mem_map.mp h
        obtain ⟨p0, hp0, e0⟩ := List.mem_filterMap.mp hp'
        unfold seenAt at e0
        split at e0
        · cases e0
        · split at e0
          · cases e0
            exact List.mem_map.mpr ⟨p0, hp0, e⟩
          · cases e0)
      have lT : (PS.take i).length ≤ 30 := by rw [List.length_take]; omega
      have lB : (atW l.rs (PS.take i)).bits.length ≤ 30 := by unfold atW; rw [List.length_map]; exact lT
      have lC : (atW l.rs (PS.take i)).cnt.length ≤ 30 := Nat.le_trans (List.length_filterMap_le _ _) lT
      have lS : (atW l.rs (PS.take i)).seen.length ≤ 30 := Nat.le_trans (List.length_filterMap_le _ _) lT
      refine ⟨_, rfl, scal_ii, _, rfl, _, rfl, pb, _, rfl, DPut.k (k := .inr n) hb7 (by rw [dL_len, sizeLine_eq]; omega), ?_⟩
      rw [dL_put, keys_new kB]
      have s8 : Same H (upd H7 pb (.dK (dL V.bl ((atW l.rs (PS.take i)).bits ++ [(n, decide (V.int num = V.int 1))])))) := Same.mut s7 nb0
      have im8 : Imm cs.ce.has H7 (upd H7 pb (.dK (dL V.bl ((atW l.rs (PS.take i)).bits ++ [(n, decide (V.int num = V.int 1))])))) := Imm.mut hb7 id
      have hb8 := upd_same (H := H7) (a := pb) (o := .dK (dL V.bl ((atW l.rs (PS.take i)).bits ++ [(n, decide (V.int num = V.int 1))])))
      have off8 : ∀ {r : Addr} {o : HO}, H7 r = some o → r ≠ pb → upd H7 pb (.dK (dL V.bl ((atW l.rs (PS.take i)).bits ++ [(n, decide (V.int num = V.int 1))]))) r = some o := fun h n => by rw [upd_ne n]; exact h
      have hd8 := off8 hd7 dpb
      have hq8 := off8 hq7 qpb
      have hc8 := off8 hc7 nbc.symm
      have hs8 := off8 hs7 nbd.symm
      have hE8 := hE7.imm im8
      generalize upd H7 pb (.dK (dL V.bl ((atW l.rs (PS.take i)).bits ++ [(n, decide (V.int num = V.int 1))]))) = H8 at s8 hb8 hd8 hq8 hc8 hs8 hE8 im8 off8 ⊢
      clear im8 off8
      walk_at "rd"
      refine ⟨_, rfl, _, rfl, d, _, rfl, DGet.k (k := .inr n) hd8, _, rfl, ?_⟩
      rw [dL_get]
      cases hg : getL (ctE l.rs) n with
      | none =>
        rw [hE8.none hg]
        have b0 : bitAt l.rs (n, num) = decide (V.int num = V.int 1) := by unfold bitAt; rw [hg]
        have c0 : cntAt l.rs (n, num) = none := by unfold cntAt; rw [hg]; rfl
        have e0 : seenAt l.rs (n, num) = none := by unfold seenAt; rw [hg]
        have g0 : badAt l.rs (n, num) = false := by unfold badAt; rw [hg]
        refine iteF ⟨_, _, by first | exact rfl | exact ⟨rfl, rfl⟩, s8, hd8, hE8, hq8, ?_, ?_, ?_, fun p hp' => ?_⟩
        · rw [etk, atW_snoc, b0]; exact hb8
        · rw [etk, atW_snoc, c0]; simpa using hc8
        · rw [etk, atW_snoc, e0]; simpa using hs8
        · rw [etk] at hp'
          rcases List.mem_append.mp hp' with hp' | hp'
          · exact hbad p hp'
          · rw [List.mem_singleton.mp hp']; exact g0
      | some e =>
        obtain ⟨v, hv, ea, de, rfl, hea⟩ := hE8.2 n e hg
        rw [hv]
        have hnum0 := hpos (n, num) (List.mem_of_getElem? hp)
        have ev : Builtin.bitAnd num (1 * 2 ^ Int.toNat 4 - 1) = num % 16 := by
          rw [Int.one_mul]
          exact Bits.bitAnd_mask 4 hnum0
        have hec : e.k.counts = true := ctE_counts l.rs n e hg
        refine iteT ⟨_, rfl, _, _, rfl, rfl, ⟨by decide, by decide, by decide⟩, _, _, rfl, rfl, _, _, rfl, rfl, _, rfl, _, rfl, pc, _, rfl, DPut.k (k := .inr n) hc8 (by rw [dL_len, sizeLine_eq]; omega), ?_⟩
        dsimp only
        rw [ev, dL_put, keys_new kC]
        have s9 : Same H (upd H8 pc (.dK (dL V.int ((atW l.rs (PS.take i)).cnt ++ [(n, num % 16)])))) := Same.mut s8 nc0
        have im9 : Imm cs.ce.has H8 (upd H8 pc (.dK (dL V.int ((atW l.rs (PS.take i)).cnt ++ [(n, num % 16)])))) := Imm.mut hc8 id
        have hc9 := upd_same (H := H8) (a := pc) (o := .dK (dL V.int ((atW l.rs (PS.take i)).cnt ++ [(n, num % 16)])))
        have off9 : ∀ {r : Addr} {o : HO}, H8 r = some o → r ≠ pc → upd H8 pc (.dK (dL V.int ((atW l.rs (PS.take i)).cnt ++ [(n, num % 16)]))) r = some o := fun h n => by rw [upd_ne n]; exact h
        have hd9 := off9 hd8 dpc
        have hq9 := off9 hq8 qpc
        have hb9 := off9 hb8 nbc
        have hs9 := off9 hs8 ncd.symm
        have hE9 := hE8.imm im9
        have hea9 : IsE cs.ce _ (.ref ea) e := IsE.mono im9 ⟨ea, de, rfl, hea⟩
        generalize upd H8 pc (.dK (dL V.int ((atW l.rs (PS.take i)).cnt ++ [(n, num % 16)]))) = H9 at s9 hc9 hd9 hq9 hb9 hs9 hE9 im9 off9 hea9 ⊢
        clear im9 off9
        obtain ⟨ea', de', e', hea9⟩ := hea9
        cases e'
        have gc : getL ((atW l.rs (PS.take i)).cnt ++ [(n, num % 16)]) n = some (num % 16) := by
          rw [← keys_new (v := num % 16) kC, getL_put, if_pos rfl]
        walk_at "rd"
        have hnm := T.st.wk.lad.enk.ends.nm _ hec
        refine ⟨_, rfl, _, rfl, pc, .int (num % 16), rfl, .inl ⟨_, .inr n, .inl hc9, rfl, by rw [dL_get, gc]; rfl⟩, _, rfl, _, rfl, d, .ref ea, rfl, .inl ⟨_, .inr n, .inl hd9, rfl, by rw [dL_get, hv]; rfl⟩, ea, _, de', _, _, rfl, hea9, T.st.wk.lad.enk.ends.cls _, hnm, E_most hec, scal_ii, ?_⟩
        have kB2 : n ∈ keysL ((atW l.rs (PS.take i)).bits ++ [(n, decide (V.int num = V.int 1))]) := by unfold keysL; simp
        refine ⟨_, rfl, _, rfl, pb, _, rfl, DPut.k (k := .inr n) hb9 (by rw [dL_len, List.length_append, sizeLine_eq]; simp only [List.length_singleton]; omega), ?_⟩
        rw [dL_put, put_put kB]
        have s10 : Same H (upd H9 pb (.dK (dL V.bl ((atW l.rs (PS.take i)).bits ++ [(n, decide (V.int (num % 16) = V.int e.m))])))) := Same.mut s9 nb0
        have im10 : Imm cs.ce.has H9 (upd H9 pb (.dK (dL V.bl ((atW l.rs (PS.take i)).bits ++ [(n, decide (V.int (num % 16) = V.int e.m))])))) := Imm.mut hb9 id
        have hb10 := upd_same (H := H9) (a := pb) (o := .dK (dL V.bl ((atW l.rs (PS.take i)).bits ++ [(n, decide (V.int (num % 16) = V.int e.m))])))
        have off10 : ∀ {r : Addr} {o : HO}, H9 r = some o → r ≠ pb → upd H9 pb (.dK (dL V.bl ((atW l.rs (PS.take i)).bits ++ [(n, decide (V.int (num % 16) = V.int e.m))]))) r = some o := fun h n => by rw [upd_ne n]; exact h
        have hd10 := off10 hd9 dpb
        have hq10 := off10 hq9 qpb
        have hc10 := off10 hc9 nbc.symm
        have hs10 := off10 hs9 nbd.symm
        have hE10 := hE9.imm im10
        have hea10 : IsE cs.ce _ (.ref ea) e := IsE.mono im10 ⟨ea, de', rfl, hea9⟩
        generalize upd H9 pb (.dK (dL V.bl ((atW l.rs (PS.take i)).bits ++ [(n, decide (V.int (num % 16) = V.int e.m))]))) = H10 at s10 hb10 hd10 hq10 hc10 hs10 hE10 im10 off10 hea10 ⊢
        clear im10 off10
        obtain ⟨ea', de'', e', hea10⟩ := hea10
        cases e'
        walk_at "rd"
        refine ⟨_, rfl, _, rfl, pc, .int (num % 16), rfl, .inl ⟨_, .inr n, .inl hc10, rfl, by rw [dL_get, gc]; rfl⟩, _, rfl, _, rfl, d, .ref ea, rfl, .inl ⟨_, .inr n, .inl hd10, rfl, by rw [dL_get, hv]; rfl⟩, ea, _, de'', _, _, rfl, hea10, T.st.wk.lad.enk.ends.cls _, hnm, E_most hec, _, rfl, _, rfl, ?_⟩
        have b0 : bitAt l.rs (n, num) = decide (V.int (num % 16) = V.int e.m) := by unfold bitAt; rw [hg]
        have c0 : cntAt l.rs (n, num) = some (n, num % 16) := by unfold cntAt; rw [hg]; rfl
        have g0 : badAt l.rs (n, num) = decide (e.m < num % 16) := by unfold badAt; rw [hg]
        have hmp : (n, num) ∈ PS := List.mem_of_getElem? hp
        by_cases hbd : e.m < num % 16
        · rw [if_pos (decide_eq_true hbd)]
          exact kx (fun ⟨m', e1, e2, h3⟩ => by
            have e1 : m = m' := by exact_mod_cast e1
            subst e1
            have := h3 (n, num) (by rw [hPS]; exact hmp)
            rw [g0] at this
            simp [hbd] at this) H10 s10
        rw [if_neg (by rw [decide_eq_false hbd]; decide)]
        have bad' : ∀ p ∈ PS.take (i + 1), badAt l.rs p = false := fun p hp' => by
          rw [etk] at hp'
          rcases List.mem_append.mp hp' with hp' | hp'
          · exact hbad p hp'
          · rw [List.mem_singleton.mp hp', g0]
            exact decide_eq_false hbd
        refine ⟨_, rfl, _, rfl, d, .ref ea, rfl, .inl ⟨_, .inr n, .inl hd10, rfl, by rw [dL_get, hv]; rfl⟩, ea, _, de'', _, _, rfl, hea10, ⟨e.k, rfl, rfl⟩, _, rfl, ?_⟩
        by_cases hkc : e.k = .counter
        · rw [if_pos (decide_eq_true hkc)]
          have e0 : seenAt l.rs (n, num) = some (n, decide (V.int (num / 16) = V.int 1)) := by unfold seenAt; rw [hg]; exact if_pos hkc
          refine ⟨_, rfl, _, _, rfl, rfl, (by decide : (0 : Int) ≤ 4), scal_ii, _, rfl, _, rfl, pd, _, rfl, DPut.k (k := .inr n) hs10 (by rw [dL_len, sizeLine_eq]; omega), ?_⟩
          have ep : putK (dL V.bl (atW l.rs (PS.take i)).seen) (Sum.inr n : Key) (V.bl (decide (V.int (num / 2 ^ Int.toNat 4) = V.int 1))) = dL V.bl ((atW l.rs (PS.take i)).seen ++ [(n, decide (V.int (num / 16) = V.int 1))]) := by
            rw [← keys_new kS, ← dL_put]
            rfl
          dsimp only
          rw [ep]
          have im11 : Imm cs.ce.has H10 (upd H10 pd (.dK (dL V.bl ((atW l.rs (PS.take i)).seen ++ [(n, decide (V.int (num / 16) = V.int 1))])))) := Imm.mut hs10 id
          refine ⟨_, _, by first | exact rfl | exact ⟨rfl, rfl⟩, Same.mut s10 nd0, by rw [upd_ne dpd]; exact hd10, hE10.imm im11, by rw [upd_ne qpd]; exact hq10, ?_, ?_, ?_, bad'⟩
          · rw [etk, atW_snoc, b0, upd_ne nbd]; exact hb10
          · rw [etk, atW_snoc, c0, upd_ne ncd]; exact hc10
          · rw [etk, atW_snoc, e0]; exact upd_same
        · rw [if_neg (by rw [decide_eq_false hkc]; decide)]
          have e0 : seenAt l.rs (n, num) = none := by unfold seenAt; rw [hg]; exact if_neg hkc
          refine ⟨_, _, by first | exact rfl | exact ⟨rfl, rfl⟩, s10, hd10, hE10, hq10, ?_, ?_, ?_, bad'⟩
          · rw [etk, atW_snoc, b0]; exact hb10
          · rw [etk, atW_snoc, c0]; exact hc10
          · rw [etk, atW_snoc, e0]; simpa using hs10
    rintro σ H6 ⟨v6, v7, rfl, s6, hd6, hE6, hq6, hb6, hc6, hs6, hbad⟩
    rw [dL_len, List.take_length] at hb6 hc6 hs6 hbad
    walk_at "rd"
    have hL6 := hL.mono (Same.imm s6)
    refine ⟨_, rfl, fun x dx nx ndx _ => ⟨H6, x, dx, .ref a, l, rfl, upd_same, same_mkE nx ndx, nx, hL6, hfair, fun H7 b c s hwi => ⟨rfl, ?_⟩⟩⟩
    have tk6 : Tri H6 pb pc pd (atW l.rs PS) := ⟨hb6, hc6, hs6, nbc, nbd, ncd⟩
    have ap6 : Ap3 b c s pb pc pd := (tk6.ap hwi.nb hwi.nc hwi.ns).symm
    have tk7 := tk6.keep hwi.same
    have s7 := s6.trans hwi.same
    walk_at "rd"
    refine ⟨_, rfl, x, cw, dx, _, rfl, hwi.obj, rfl, lkWn (by decide +kernel), _, rfl, _, rfl, _, rfl, line_ge (by show 3 ≤ 1000000; decide), fun kt nk => ?_⟩
    have t8 := Same.new (o := .tup [.ref pb, .ref pc, .ref pd]) nk
    have hw8 := hwi.keep t8
    have s8 := s7.trans t8
    have lB : (atW l.rs PS).bits.length ≤ 30 := by unfold atW; rw [List.length_map]; exact hPl
    have lC : (atW l.rs PS).cnt.length ≤ 30 := Nat.le_trans (List.length_filterMap_le _ _) hPl
    have lS : (atW l.rs PS).seen.length ≤ 30 := Nat.le_trans (List.length_filterMap_le _ _) hPl
    refine ⟨x, dx, b, c, s, kt, pb, pc, pd, .ref a, wNew l, atW l.rs PS, l, rfl, hw8.obj, hL6.mono (Same.imm hw8.same), hw8.tri, fits_new l, hfair, upd_same, tk7.keep t8, by omega, by omega, by omega, ap6, fun H9 k9 t9 => ?_⟩
    have s9 : Same H H9 := k9.same s8 (s6.free hwi.nb) (s6.free hwi.nc) (s6.free hwi.ns)
    subst hPS
    exact k m rfl hm hbad H9 x dx b c s s9 (s6.free nx) (s6.free hwi.nb) (s6.free hwi.nc) (s6.free hwi.ns) (k9 _ _ hw8.obj hw8.ne.1 hw8.ne.2.1 hw8.ne.2.2) t9
end

--%% ND1
/-! ## states: a number's works -/
theorem list_ext {α : Type} : ∀ {a b : List (Str × α)}, keysL a = keysL b → (keysL a).Nodup → (∀ n, getL a n = getL b n) → a = b
  | [], [], _, _, _ => rfl
  | [], y :: b, h, _, _ => by simp [keysL] at h
  | x :: a, [], h, _, _ => by simp [keysL] at h
  | x :: a, y :: b, h, hn, hg => by
    have h' : x.1 :: keysL a = y.1 :: keysL b := h
    have hn' : (x.1 :: keysL a).Nodup := hn
    obtain ⟨h1, h2⟩ := List.cons.inj h'
    obtain ⟨n1, n2⟩ := List.nodup_cons.mp hn'
    have e1 := hg x.1
    have ex : ∀ (z : Str × α) (c : List (Str × α)) (n : Str), getL (z :: c) n = if z.1 = n then some z.2 else getL c n := fun z c n => by
      unfold getL
      by_cases hz : z.1 = n
      · rw [List.find?_cons_of_pos (by simpa using hz), if_pos hz]; rfl
      · rw [List.find?_cons_of_neg (by simpa using hz), if_neg hz]
    rw [ex, ex, if_pos rfl, if_pos h1.symm] at e1
    have exy : x = y := Prod.ext h1 (Option.some.inj e1)
    have et : a = b := list_ext h2 n2 fun n => by
      by_cases hz : x.1 = n
      · have a1 : getL a n = none := getL_none.mpr (by rw [← hz]; exact n1)
        have b1 : getL b n = none := getL_none.mpr (by rw [← hz, ← h2]; exact n1)
        rw [a1, b1]
      · have := hg n
        rw [ex, ex, if_neg hz, if_neg (by rw [← h1]; exact hz)] at this
        exact this
    rw [exy, et]
theorem putAll_keys {α : Type} : ∀ (r b : List (Str × α)), (∀ n ∈ keysL r, n ∈ keysL b) → keysL (putAll b r) = keysL b
  | [], b, _ => rfl
  | p :: r, b, h => by
    have h1 := h p.1 (by unfold keysL; exact List.mem_cons_self)
    show keysL (putAll (putL b p.1 p.2) r) = _
    rw [putAll_keys r _ fun n hn => by rw [keys_put h1]; exact h n (List.mem_cons_of_mem _ hn), keys_put h1]
theorem putAll_get {α : Type} (n : Str) : ∀ (r b : List (Str × α)), (keysL r).Nodup → getL (putAll b r) n = ((getL r n).or (getL b n))
  | [], b, _ => rfl
  | p :: r, b, h => by
    have h' : (p.1 :: keysL r).Nodup := h
    obtain ⟨n1, n2⟩ := List.nodup_cons.mp h'
    show getL (putAll (putL b p.1 p.2) r) n = _
    rw [putAll_get n r _ n2, getL_put]
    have ex : getL (p :: r) n = if p.1 = n then some p.2 else getL r n := by
      unfold getL
      by_cases hz : p.1 = n
      · rw [List.find?_cons_of_pos (by simpa using hz), if_pos hz]; rfl
      · rw [List.find?_cons_of_neg (by simpa using hz), if_neg hz]
    rw [ex]
    by_cases hz : p.1 = n
    · have a1 : getL r n = none := getL_none.mpr (by rw [← hz]; exact n1)
      rw [if_pos hz, if_pos hz.symm, a1]
      rfl
    · rw [if_neg hz, if_neg fun e => hz e.symm]
theorem getL_map {α : Type} (f : Str → α) (n : Str) : ∀ ns : List Str, getL (ns.map fun n => (n, f n)) n = if n ∈ ns then some (f n) else none
  | [] => rfl
  | x :: ns => by
    have ih := getL_map f n ns
    unfold getL at ih ⊢
    by_cases hz : x = n
    · rw [List.map_cons, List.find?_cons_of_pos (by simpa using hz), if_pos (by rw [hz]; exact List.mem_cons_self), hz]; rfl
    · rw [List.map_cons, List.find?_cons_of_neg (by simpa using hz), ih]
      by_cases hm : n ∈ ns
      · rw [if_pos hm, if_pos (List.mem_cons_of_mem _ hm)]
      · rw [if_neg hm, if_neg]
        intro q
        rcases List.mem_cons.mp q with q | q
        · exact hz q.symm
        · exact hm q
theorem keys_map {α : Type} (f : Str → α) (ns : List Str) : keysL (ns.map fun n => (n, f n)) = ns := by simp [keysL, Function.comp_def]
theorem getL_filterMap {α : Type} (g : Str → Option α) (n : Str) : ∀ ns : List Str, getL (ns.filterMap fun n => (g n).map fun v => (n, v)) n = if n ∈ ns then g n else none
  | [] => rfl
  | x :: ns => by
    have ih := getL_filterMap g n ns
    have e : ∀ c : List (Str × α), ∀ v, getL ((x, v) :: c) n = if x = n then some v else getL c n := fun c v => by
      unfold getL
      by_cases hz : x = n
      · rw [List.find?_cons_of_pos (by simpa using hz), if_pos hz]; rfl
      · rw [List.find?_cons_of_neg (by simpa using hz), if_neg hz]
    by_cases hz : x = n
    · subst hz
      rw [if_pos List.mem_cons_self]
      cases hg : g x with
      | none =>
        rw [List.filterMap_cons_none (by rw [hg]; rfl), ih, hg]
        split <;> rfl
      | some v => rw [List.filterMap_cons_some (by rw [hg]; rfl), e, if_pos rfl]
    · have hm : (n ∈ x :: ns) ↔ n ∈ ns := ⟨fun q => (List.mem_cons.mp q).resolve_left fun e => hz e.symm, List.mem_cons_of_mem _⟩
      have e2 : (if n ∈ x :: ns then g n else none) = if n ∈ ns then g n else none := by
        by_cases h : n ∈ ns
        · rw [if_pos h, if_pos (hm.mpr h)]
        · rw [if_neg h, if_neg fun q => h (hm.mp q)]
      rw [e2, ← ih]
      cases hg : g x with
      | none => rw [List.filterMap_cons_none (by rw [hg]; rfl)]
      | some v => rw [List.filterMap_cons_some (by rw [hg]; rfl), e, if_neg hz]
theorem keys_filterMap {α : Type} (g : Str → Option α) : ∀ ns : List Str, keysL (ns.filterMap fun n => (g n).map fun v => (n, v)) = ns.filter fun n => (g n).isSome
  | [] => rfl
  | x :: ns => by
    have ih := keys_filterMap g ns
    cases hg : g x with
    | none => rw [List.filterMap_cons_none (by rw [hg]; rfl), List.filter_cons_of_neg (by rw [hg]; exact Bool.false_ne_true), ih]
    | some v =>
      rw [List.filterMap_cons_some (by rw [hg]; rfl), List.filter_cons_of_pos (by rw [hg]; rfl), ← ih]
      rfl
theorem filterMap_cong {α β : Type} {f g : α → Option β} : ∀ {l : List α}, (∀ x ∈ l, f x = g x) → l.filterMap f = l.filterMap g
  | [], _ => rfl
  | x :: l, h => by
    have ih := filterMap_cong fun y hy => h y (List.mem_cons_of_mem _ hy)
    rw [List.filterMap_cons, List.filterMap_cons, h x List.mem_cons_self, ih]
/-! ### whose count it is -/
theorem ctE_mem (rs : List Rg) : ∀ n e, getL (ctE rs) n = some e → ∃ r ∈ rs, r.e = e ∧ e.n = n := writ_ind (p := fun rs => ∀ n e, getL (ctE rs) n = some e → ∃ r ∈ rs, r.e = e ∧ e.n = n) (fun n e h => by cases h) (fun rs r ih n e h => by
  rw [ctE_snoc] at h
  split at h
  · rw [getL_put] at h
    split at h
    · rename_i hn
      cases h
      exact ⟨r, by simp, rfl, hn.symm⟩
    · obtain ⟨q, hq, h1⟩ := ih n e h
      exact ⟨q, List.mem_append_left _ hq, h1⟩
  · obtain ⟨q, hq, h1⟩ := ih n e h
    exact ⟨q, List.mem_append_left _ hq, h1⟩) rs
theorem ctE_keys0 (n : Str) (rs : List Rg) : keysL (ctE rs) = keysL (cnt0 rs) := writ_ind (p := fun rs => keysL (ctE rs) = keysL (cnt0 rs)) rfl (fun rs r ih => by
  rw [ctE_snoc, cnt0_snoc]
  split
  · by_cases h : r.e.n ∈ keysL (ctE rs)
    · rw [keys_put h, keys_put (by rw [← ih]; exact h), ih]
    · rw [keys_put_new h, keys_put_new (by rw [← ih]; exact h), ih]
  · exact ih) rs
theorem own1 {rs : List Rg} {r q : Rg} (hf : crowd rs = false) (hr : r ∈ rs) (hq : q ∈ rs) (hn : r.e.n = q.e.n) (hu : r.e.k ≠ .unlatch) (hk : q.e.k.counts = true) : r = q := by
  have hqu : q.e.k ≠ .unlatch := fun z => by rw [z] at hk; cases hk
  have hc : ¬ (1 < (bears q.e.n rs).length ∧ (bears q.e.n rs).any id = true) := fun z => by
    have : crowd rs = true := by
      unfold crowd
      rw [List.any_eq_true]
      exact ⟨q, hq, by rw [decide_eq_true z.1, z.2]; rfl⟩
    rw [hf] at this
    cases this
  have m1 : r ∈ rs.filter fun r => decide (r.e.n = q.e.n) && !decide (r.e.k = .unlatch) := List.mem_filter.mpr ⟨hr, by rw [decide_eq_true hn, decide_eq_false hu]; rfl⟩
  have m2 : q ∈ rs.filter fun r => decide (r.e.n = q.e.n) && !decide (r.e.k = .unlatch) := List.mem_filter.mpr ⟨hq, by rw [decide_eq_true rfl, decide_eq_false hqu]; rfl⟩
  have ha : (bears q.e.n rs).any id = true := by
    unfold bears
    rw [List.any_eq_true]
    exact ⟨true, List.mem_map.mpr ⟨q, m2, hk⟩, rfl⟩
  have hl : (rs.filter fun r => decide (r.e.n = q.e.n) && !decide (r.e.k = .unlatch)).length ≤ 1 := by
    have : (bears q.e.n rs).length ≤ 1 := by
      rcases Nat.lt_or_ge 1 (bears q.e.n rs).length with h | h
      · exact absurd ⟨h, ha⟩ hc
      · exact h
    unfold bears at this
    rw [List.length_map] at this
    exact this
  generalize (rs.filter fun r => decide (r.e.n = q.e.n) && !decide (r.e.k = .unlatch)) = L at m1 m2 hl
  cases L with
  | nil => cases m1
  | cons x L =>
    cases L with
    | nil => rw [List.mem_singleton.mp m1, List.mem_singleton.mp m2]
    | cons y L => simp at hl
theorem ctE_one {rs : List Rg} {r : Rg} (hf : crowd rs = false) (hr : r ∈ rs) (hk : r.e.k.counts = true) : getL (ctE rs) r.e.n = some r.e := by
  have hm : r.e.n ∈ keysL (ctE rs) := by
    rw [ctE_keys0 r.e.n, cnt0_keys]
    exact ⟨r, hr, hk, rfl⟩
  obtain ⟨e, he⟩ := getL_mem.mpr hm
  obtain ⟨q, hq, rfl, hn⟩ := ctE_mem rs _ _ he
  have hqk := ctE_counts rs _ _ he
  have hqu : q.e.k ≠ .unlatch := fun z => by rw [z] at hqk; cases hqk
  rw [he, own1 hf hq hr hn hqu hk]
theorem ctE_no {rs : List Rg} {r : Rg} (hf : crowd rs = false) (hr : r ∈ rs) (hk : r.e.k.counts = false) (hu : r.e.k ≠ .unlatch) : getL (ctE rs) r.e.n = none := by
  cases he : getL (ctE rs) r.e.n with
  | none => rfl
  | some e =>
    obtain ⟨q, hq, rfl, hn⟩ := ctE_mem rs _ _ he
    have hqk := ctE_counts rs _ _ he
    rw [own1 hf hr hq hn.symm hu hqk, hqk] at hk
    cases hk
/-! ### counts within their most -/
def Cnted (rs : List Rg) (u : Ws) : Prop := ∀ n e, getL (ctE rs) n = some e → 0 ≤ u.cntOf n ∧ u.cntOf n ≤ e.m ∧ u.bitOf n = decide (u.cntOf n = e.m)
theorem cntOf_put (b : List (Str × Bool)) (c : List (Str × Int)) (s : List (Str × Bool)) (n m : Str) (v : Int) : Ws.cntOf ⟨b, putL c n v, s⟩ m = if m = n then v else Ws.cntOf ⟨b, c, s⟩ m := by
  unfold Ws.cntOf
  rw [getL_put]
  split <;> rfl
theorem bitOf_put (b : List (Str × Bool)) (c : List (Str × Int)) (s : List (Str × Bool)) (n m : Str) (v : Bool) : Ws.bitOf ⟨putL b n v, c, s⟩ m = if m = n then v else Ws.bitOf ⟨b, c, s⟩ m := by
  unfold Ws.bitOf
  rw [getL_put]
  split <;> rfl
theorem seenOf_put (b : List (Str × Bool)) (c : List (Str × Int)) (s : List (Str × Bool)) (n m : Str) (v : Bool) : Ws.seenOf ⟨b, c, putL s n v⟩ m = if m = n then v else Ws.seenOf ⟨b, c, s⟩ m := by
  unfold Ws.seenOf
  rw [getL_put]
  split <;> rfl
theorem Cnted.act {rs : List Rg} {u : Ws} {r : Rg} (h : Cnted rs u) (hf : crowd rs = false) (hr : r ∈ rs) (h1 : 1 ≤ r.e.m) (hone : ∀ e, getL (ctE rs) r.e.n = some e → 1 ≤ e.m) (hkc : ∀ n ∈ keysL (ctE rs), n ∈ keysL u.cnt) (b : Bool) : Cnted rs (act u r.e b) := by
  intro n e he
  have hu := h n e he
  by_cases hn : n = r.e.n
  · subst hn
    unfold My.act
    cases hk : r.e.k with
    | coil => rw [ctE_no hf hr (by rw [hk]; rfl) (by rw [hk]; decide)] at he; cases he
    | latch => rw [ctE_no hf hr (by rw [hk]; rfl) (by rw [hk]; decide)] at he; cases he
    | unlatch =>
      simp only
      split
      · have hm : r.e.n ∈ keysL u.cnt := hkc _ (getL_mem.mp ⟨e, he⟩)
        rw [if_pos hm, bitOf_put, if_pos rfl, cntOf_put, if_pos rfl]
        have := hone e he
        exact ⟨Int.le_refl _, by omega, by rw [decide_eq_false (by omega)]⟩
      · exact hu
    | timer =>
      rw [ctE_one hf hr (by rw [hk]; rfl)] at he
      cases he
      simp only
      rw [bitOf_put, if_pos rfl, cntOf_put, if_pos rfl]
      refine ⟨?_, ?_, rfl⟩
      · split
        · have := hu.1; omega
        · exact Int.le_refl _
      · split
        · omega
        · omega
    | counter =>
      rw [ctE_one hf hr (by rw [hk]; rfl)] at he
      cases he
      simp only
      rw [bitOf_put, if_pos rfl]
      split
      · rw [cntOf_put, if_pos rfl]
        exact ⟨by have := hu.1; omega, by omega, rfl⟩
      · exact ⟨hu.1, hu.2.1, rfl⟩
  · have e1 : (My.act u r.e b).cntOf n = u.cntOf n := by
      unfold My.act
      split
      · rfl
      · split <;> rfl
      · split
        · split
          · rw [cntOf_put, if_neg hn]; rfl
          · rfl
        · rfl
      · rw [cntOf_put, if_neg hn]; rfl
      · split
        · rw [cntOf_put, if_neg hn]; rfl
        · rfl
    have e2 : (My.act u r.e b).bitOf n = u.bitOf n := by
      unfold My.act
      split
      · rw [bitOf_put, if_neg hn]
      · split
        · rw [bitOf_put, if_neg hn]
        · rfl
      · split
        · rw [bitOf_put, if_neg hn]; rfl
        · rfl
      · rw [bitOf_put, if_neg hn]; rfl
      · rw [bitOf_put, if_neg hn]; rfl
    rw [e1, e2]
    exact hu
theorem putRow_get (n : Str) : ∀ (r b : List (Str × Bool)), n ∉ keysL r → getL (putRow b r) n = getL b n
  | [], b, _ => rfl
  | p :: r, b, h => by
    have h' : n ∉ p.1 :: keysL r := h
    show getL (putRow (putL b p.1 p.2) r) n = _
    rw [putRow_get n r _ fun q => h' (List.mem_cons_of_mem _ q), getL_put, if_neg fun q => h' (by rw [q]; exact List.mem_cons_self)]
/-- what the ladders asked about have -/
structure Lad.fit (l : Lad) : Prop where
  crowd : crowd l.rs = false
  apart : ∀ x ∈ l.ins, x ∉ writ l.rs
  most : ∀ r ∈ l.rs, 1 ≤ r.e.m ∧ r.e.m ≤ 9
theorem Lad.fit.most1 {l : Lad} (g : l.fit) {n : Str} {e : EndC} (h : getL (ctE l.rs) n = some e) : 1 ≤ e.m ∧ e.m ≤ 9 := by
  obtain ⟨r, hr, rfl, _⟩ := ctE_mem _ _ _ h
  exact g.most r hr
theorem ctE_writ {rs : List Rg} {n : Str} {e : EndC} (h : getL (ctE rs) n = some e) : n ∈ writ rs := by
  obtain ⟨r, hr, rfl, hn⟩ := ctE_mem _ _ _ h
  exact (writ_mem _).mpr ⟨r, hr, hn⟩
theorem Cnted.go {l : Lad} {u : Ws} (g : l.fit) (f : Fits l u) (h : Cnted l.rs u) : ∀ i, Cnted l.rs (goRungs u (l.rs.take i)).1
  | 0 => h
  | i + 1 => by
    by_cases hi : i < l.rs.length
    · rw [List.take_succ, List.getElem?_eq_getElem hi]
      show Cnted l.rs (goRungs u (l.rs.take i ++ [l.rs[i]])).1
      rw [goRungs_snoc]
      exact (Cnted.go g f h i).act g.crowd (List.getElem_mem hi) (g.most _ (List.getElem_mem hi)).1 (fun e he => (g.most1 he).1) (fun n hn => by rw [(f.go i).kc, ← ctE_keys0 n]; exact hn) _
    · rw [List.take_of_length_le (by omega)]
      have := Cnted.go g f h i
      rw [List.take_of_length_le (by omega)] at this
      exact this
theorem Cnted.scan {l : Lad} {u : Ws} (g : l.fit) (f : Fits l u) (h : Cnted l.rs u) (row : List Bool) : Cnted l.rs (scanP l u row).1 := by
  have h2 : Cnted l.rs ⟨putRow u.bits (l.ins.zip row), u.cnt, u.seen⟩ := fun n e he => by
    have hb : Ws.bitOf ⟨putRow u.bits (l.ins.zip row), u.cnt, u.seen⟩ n = u.bitOf n := by
      unfold Ws.bitOf
      rw [putRow_get]
      intro q
      obtain ⟨p, hp, rfl⟩ := List.mem_map.mp q
      exact g.apart _ (List.of_mem_zip hp).1 (ctE_writ he)
    rw [hb]
    exact h n e he
  have := h2.go g (f.row row) l.rs.length
  rw [List.take_length] at this
  exact this
theorem cnt0_get (rs : List Rg) : ∀ n v, getL (cnt0 rs) n = some v → v = 0 := writ_ind (p := fun rs => ∀ n v, getL (cnt0 rs) n = some v → v = 0) (fun n v h => by cases h) (fun rs r ih n v h => by
  rw [cnt0_snoc] at h
  split at h
  · rw [getL_put] at h
    split at h
    · cases h; rfl
    · exact ih n v h
  · exact ih n v h) rs
theorem Cnted.new {l : Lad} (g : l.fit) : Cnted l.rs (wNew l) := fun n e he => by
  have h1 : (wNew l).cntOf n = 0 := by
    unfold Ws.cntOf wNew
    simp only
    cases h : getL (cnt0 l.rs) n with
    | none => rfl
    | some v => rw [cnt0_get _ _ _ h]; rfl
  have h2 : (wNew l).bitOf n = false := by
    unfold Ws.bitOf wNew
    simp only
    rw [getL_map]
    split <;> rfl
  have := (g.most1 he).1
  rw [h1, h2]
  exact ⟨Int.le_refl _, by omega, by rw [decide_eq_false (by omega)]⟩
/-! ### the number of what is kept, and what is kept of the number -/
theorem seen0_counter {rs : List Rg} (hf : crowd rs = false) {n : Str} {e : EndC} (h : getL (ctE rs) n = some e) : n ∈ keysL (seen0 rs) ↔ e.k = .counter := by
  obtain ⟨r, hr, rfl, hn⟩ := ctE_mem _ _ _ h
  rw [seen0_keys]
  constructor
  · rintro ⟨q, hq, hk, hqn⟩
    have := ctE_one hf hq (by rw [hk]; rfl)
    rw [hqn, h] at this
    rw [Option.some.inj this]
    exact hk
  · intro hk
    exact ⟨r, hr, hk, hn⟩
theorem seen0_none {rs : List Rg} {n : Str} (h : getL (ctE rs) n = none) : n ∉ keysL (seen0 rs) := by
  rw [seen0_keys]
  rintro ⟨q, hq, hk, hqn⟩
  refine absurd ?_ (getL_none.mp h)
  rw [ctE_keys0 n, cnt0_keys]
  exact ⟨q, hq, by rw [hk]; rfl, hqn⟩
section
variable {l : Lad} {k : Ws}
theorem KFits.cnt_none (f : KFits l k) {n : Str} (h : getL (ctE l.rs) n = none) : n ∉ keysL k.cnt := by
  rw [f.kc, ← ctE_keys0 n]
  exact getL_none.mp h
theorem KFits.cnt_some (f : KFits l k) {n : Str} {e : EndC} (h : getL (ctE l.rs) n = some e) : n ∈ keysL k.cnt := by
  rw [f.kc, ← ctE_keys0 n]
  exact getL_mem.mp ⟨e, h⟩
theorem KFits.seen_timer (f : KFits l k) (g : l.fit) {n : Str} {e : EndC} (h : getL (ctE l.rs) n = some e) (hk : e.k ≠ .counter) : k.seenOf n = false := by
  have : n ∉ keysL k.seen := by rw [f.ks, seen0_counter g.crowd h]; exact hk
  unfold Ws.seenOf
  rw [getL_none.mpr this]
  rfl
theorem numOf_none (f : KFits l k) {n : Str} (h : getL (ctE l.rs) n = none) : numOf k n = if k.bitOf n = true then 1 else 0 := by
  unfold numOf
  rw [if_neg (f.cnt_none h)]
theorem numOf_some (f : KFits l k) {n : Str} {e : EndC} (h : getL (ctE l.rs) n = some e) : numOf k n = (k.cntOf n).toNat + if k.seenOf n = true then 16 else 0 := by
  unfold numOf
  rw [if_pos (f.cnt_some h)]
theorem numOf_lt (f : KFits l k) (g : l.fit) (h : Cnted l.rs k) (n : Str) : numOf k n < 2 ^ bitsOf l.rs n := by
  unfold bitsOf
  cases he : getL (ctE l.rs) n with
  | none =>
    rw [numOf_none f he]
    split <;> decide
  | some e =>
    obtain ⟨h1, h2, _⟩ := h n e he
    have h9 := (g.most1 he).2
    rw [numOf_some f he]
    dsimp only
    by_cases hk : e.k = .counter
    · rw [if_pos hk]
      split
      · show _ < 32; omega
      · show _ < 32; omega
    · rw [if_neg hk, f.seen_timer g he hk, if_neg (by decide)]
      show _ < 16
      omega
theorem KFits.numOk (f : KFits l k) (g : l.fit) (h : Cnted l.rs k) : NumOk l.rs k := fun n _ => numOf_lt f g h n
theorem KFits.cntOk (f : KFits l k) (g : l.fit) (h : Cnted l.rs k) : CntOk k := fun n v hv => by
  have hm : n ∈ keysL (ctE l.rs) := by
    rw [ctE_keys0 n, ← f.kc]
    exact getL_mem.mp ⟨v, hv⟩
  obtain ⟨e, he⟩ := getL_mem.mpr hm
  obtain ⟨h1, h2, _⟩ := h n e he
  have h9 := (g.most1 he).2
  have hc : k.cntOf n = v := by unfold Ws.cntOf; rw [hv]; rfl
  rw [hc] at h1 h2
  omega
theorem piece_state (rs : List Rg) (k : Ws) : ∀ ns : List Str, (∀ n ∈ ns, numOf k n < 2 ^ bitsOf rs n) → pieceL rs (stateL rs k ns) ns = ns.map fun n => (n, ((numOf k n : Nat) : Int))
  | [], _ => rfl
  | n :: ns, h => by
    have hn := h n List.mem_cons_self
    rw [pieceL, stateL, List.map_cons, Nat.add_mul_mod_self_left, Nat.mod_eq_of_lt hn, Nat.add_mul_div_left _ _ (Nat.two_pow_pos _), Nat.div_eq_of_lt hn, Nat.zero_add, piece_state rs k ns fun m hm => h m (List.mem_cons_of_mem _ hm)]
theorem bad_state (f : KFits l k) (g : l.fit) (h : Cnted l.rs k) : ∀ p ∈ pieceL l.rs (stateL l.rs k (writ l.rs)) (writ l.rs), badAt l.rs p = false := by
  rw [piece_state l.rs k _ (f.numOk g h)]
  intro p hp
  obtain ⟨n, hn, rfl⟩ := List.mem_map.mp hp
  unfold badAt
  dsimp only
  cases he : getL (ctE l.rs) n with
  | none => rfl
  | some e =>
    obtain ⟨h1, h2, _⟩ := h n e he
    have h9 := (g.most1 he).2
    rw [numOf_some f he]
    dsimp only
    rw [decide_eq_false]
    split <;> omega
theorem state_lt (f : KFits l k) (g : l.fit) (h : Cnted l.rs k) : stateL l.rs k (writ l.rs) < 2 ^ widthL l.rs (writ l.rs) := stateL_lt l.rs k _ (f.numOk g h)
/-- what a state's works keep -/
theorem at_state (hf : l.fair = true) (f : KFits l k) (g : l.fit) (h : Cnted l.rs k) : overW l (wNew l) (atW l.rs (pieceL l.rs (stateL l.rs k (writ l.rs)) (writ l.rs))) = backW l k := by
  obtain ⟨f1, f2, f3, f4, f5, f6, f7, f8, f9⟩ := (fair_iff l).mp hf
  rw [piece_state l.rs k _ (f.numOk g h)]
  have hwn := writ_nodup l.rs
  have hall : (l.ins ++ writ l.rs).Nodup := List.nodup_append.mpr ⟨f2, hwn, fun a ha b hb e => g.apart a ha (e ▸ hb)⟩
  have kb0 : keysL ((l.ins ++ writ l.rs).map fun n => (n, false)) = l.ins ++ writ l.rs := keys_map _ _
  have ki : keysL (l.ins.map fun n => (n, false)) = l.ins := keys_map _ _
  unfold overW backW wNew atW
  rw [List.map_map, List.filterMap_map, List.filterMap_map]
  dsimp only
  congr 1
  · have ew : ∀ n ∈ writ l.rs, bitAt l.rs (n, ((numOf k n : Nat) : Int)) = k.bitOf n := fun n hn => by
      unfold bitAt
      dsimp only
      cases he : getL (ctE l.rs) n with
      | none =>
        rw [numOf_none f he]
        cases k.bitOf n <;> rfl
      | some e =>
        obtain ⟨h1, h2, h3⟩ := h n e he
        have h9 := (g.most1 he).2
        rw [numOf_some f he, h3]
        dsimp only
        have e1 : (((k.cntOf n).toNat + if k.seenOf n = true then 16 else 0 : Nat) : Int) % 16 = k.cntOf n := by split <;> omega
        rw [e1]
        exact decide_eq_decide.mpr ⟨fun q => (V.int.inj q), fun q => congrArg V.int q⟩
    have em : (writ l.rs).map ((fun p => (p.1, bitAt l.rs p)) ∘ fun n => (n, ((numOf k n : Nat) : Int))) = (writ l.rs).map fun n => (n, k.bitOf n) := List.map_congr_left fun n hn => by
      show (n, bitAt l.rs (n, _)) = _
      rw [ew n hn]
    rw [em]
    have k1 : keysL (putAll ((l.ins ++ writ l.rs).map fun n => (n, false)) (l.ins.map fun n => (n, false))) = l.ins ++ writ l.rs := by
      rw [putAll_keys, kb0]
      intro n hn
      rw [ki] at hn
      rw [kb0]
      exact List.mem_append_left _ hn
    have k2 : keysL (putAll (putAll ((l.ins ++ writ l.rs).map fun n => (n, false)) (l.ins.map fun n => (n, false))) ((writ l.rs).map fun n => (n, k.bitOf n))) = l.ins ++ writ l.rs := by
      rw [putAll_keys, k1]
      intro n hn
      rw [keys_map] at hn
      rw [k1]
      exact List.mem_append_right _ hn
    refine list_ext ?_ (by rw [k2]; exact hall) fun n => ?_
    · rw [k2, keysL, List.map_append, ← keysL, ← keysL, ki, f.kb]
    · rw [putAll_get _ _ _ (by rw [keys_map]; exact hwn), putAll_get _ _ _ (by rw [ki]; exact f2), getL_map, getL_map, getL_map]
      have ea : getL ((l.ins.map fun n => (n, false)) ++ k.bits) n = (getL (l.ins.map fun n => (n, false)) n).or (getL k.bits n) := by
        unfold getL
        rw [List.find?_append]
        cases (l.ins.map fun n => (n, false)).find? fun p => decide (p.1 = n) <;> rfl
      rw [ea, getL_map]
      by_cases hw : n ∈ writ l.rs
      · have hi : n ∉ l.ins := fun q => g.apart n q hw
        obtain ⟨v, hv⟩ := getL_mem.mpr (show n ∈ keysL k.bits by rw [f.kb]; exact hw)
        rw [if_pos hw, if_neg hi, hv]
        unfold Ws.bitOf
        rw [hv]
        rfl
      · rw [if_neg hw, getL_none.mpr (show n ∉ keysL k.bits by rw [f.kb]; exact hw)]
        by_cases hi : n ∈ l.ins
        · rw [if_pos hi, if_pos (List.mem_append_left _ hi)]
          rfl
        · rw [if_neg hi, if_neg (fun q => (List.mem_append.mp q).elim hi hw)]
          rfl
  · have em : (writ l.rs).filterMap (cntAt l.rs ∘ fun n => (n, ((numOf k n : Nat) : Int))) = (writ l.rs).filterMap fun n => ((getL (ctE l.rs) n).map fun _ => k.cntOf n).map fun v => (n, v) := by
      refine filterMap_cong fun n hn => ?_
      show cntAt l.rs (n, _) = _
      unfold cntAt
      dsimp only
      cases he : getL (ctE l.rs) n with
      | none => rfl
      | some e =>
        obtain ⟨h1, h2, h3⟩ := h n e he
        have h9 := (g.most1 he).2
        rw [numOf_some f he]
        have e1 : (((k.cntOf n).toNat + if k.seenOf n = true then 16 else 0 : Nat) : Int) % 16 = k.cntOf n := by split <;> omega
        show some (n, (((k.cntOf n).toNat + if k.seenOf n = true then 16 else 0 : Nat) : Int) % 16) = some (n, k.cntOf n)
        rw [e1]
    rw [em]
    have kk : ∀ n, n ∈ keysL ((writ l.rs).filterMap fun n => ((getL (ctE l.rs) n).map fun _ => k.cntOf n).map fun v => (n, v)) ↔ n ∈ keysL (cnt0 l.rs) := fun n => by
      rw [keys_filterMap, List.mem_filter, ← ctE_keys0 n]
      constructor
      · rintro ⟨_, h⟩
        cases he : getL (ctE l.rs) n with
        | none => rw [he] at h; cases h
        | some e => exact getL_mem.mp ⟨e, he⟩
      · intro h
        obtain ⟨e, he⟩ := getL_mem.mpr h
        exact ⟨ctE_writ he, by rw [he]; rfl⟩
    have k2 := putAll_keys ((writ l.rs).filterMap fun n => ((getL (ctE l.rs) n).map fun _ => k.cntOf n).map fun v => (n, v)) (cnt0 l.rs) fun n hn => (kk n).mp hn
    refine list_ext (by rw [k2, f.kc]) (by rw [k2]; exact cnt0_nodup _) fun n => ?_
    rw [putAll_get _ _ _ (by rw [keys_filterMap]; exact hwn.filter _), getL_filterMap]
    cases he : getL (ctE l.rs) n with
    | none =>
      have h1 := f.cnt_none he
      rw [getL_none.mpr h1, getL_none.mpr (by rw [← f.kc]; exact h1)]
      split <;> rfl
    | some e =>
      rw [if_pos (ctE_writ he)]
      obtain ⟨v, hv⟩ := getL_mem.mpr (f.cnt_some he)
      rw [hv]
      unfold Ws.cntOf
      rw [hv]
      rfl
  · have em : (writ l.rs).filterMap (seenAt l.rs ∘ fun n => (n, ((numOf k n : Nat) : Int))) = (writ l.rs).filterMap fun n => ((getL (ctE l.rs) n).bind fun e => if e.k = .counter then some (k.seenOf n) else none).map fun v => (n, v) := by
      refine filterMap_cong fun n hn => ?_
      show seenAt l.rs (n, _) = _
      unfold seenAt
      dsimp only
      cases he : getL (ctE l.rs) n with
      | none => rfl
      | some e =>
        obtain ⟨h1, h2, h3⟩ := h n e he
        have h9 := (g.most1 he).2
        rw [numOf_some f he]
        dsimp only [Option.bind_some]
        by_cases hk : e.k = .counter
        · rw [if_pos hk, if_pos hk]
          show some (n, _) = some (n, _)
          congr 2
          cases hs : k.seenOf n with
          | true =>
            rw [if_pos rfl]
            exact decide_eq_true (congrArg V.int (by omega))
          | false =>
            rw [if_neg (by decide)]
            refine decide_eq_false fun q => ?_
            have := V.int.inj q
            omega
        · rw [if_neg hk, if_neg hk]
          rfl
    rw [em]
    have kk : ∀ n, n ∈ keysL ((writ l.rs).filterMap fun n => ((getL (ctE l.rs) n).bind fun e => if e.k = .counter then some (k.seenOf n) else none).map fun v => (n, v)) ↔ n ∈ keysL (seen0 l.rs) := fun n => by
      rw [keys_filterMap, List.mem_filter]
      constructor
      · rintro ⟨_, h⟩
        cases he : getL (ctE l.rs) n with
        | none => rw [he] at h; cases h
        | some e =>
          rw [he] at h
          refine (seen0_counter g.crowd he).mpr ?_
          by_cases hk : e.k = .counter
          · exact hk
          · rw [Option.bind_some, if_neg hk] at h
            cases h
      · intro h
        cases he : getL (ctE l.rs) n with
        | none => exact absurd h (seen0_none he)
        | some e => exact ⟨ctE_writ he, by rw [Option.bind_some, if_pos ((seen0_counter g.crowd he).mp h)]; rfl⟩
    have k2 := putAll_keys ((writ l.rs).filterMap fun n => ((getL (ctE l.rs) n).bind fun e => if e.k = .counter then some (k.seenOf n) else none).map fun v => (n, v)) (seen0 l.rs) fun n hn => (kk n).mp hn
    refine list_ext (by rw [k2, f.ks]) (by rw [k2]; exact seen0_nodup _) fun n => ?_
    rw [putAll_get _ _ _ (by rw [keys_filterMap]; exact hwn.filter _), getL_filterMap]
    by_cases hs : n ∈ keysL (seen0 l.rs)
    · obtain ⟨v, hv⟩ := getL_mem.mpr (show n ∈ keysL k.seen by rw [f.ks]; exact hs)
      cases he : getL (ctE l.rs) n with
      | none => exact absurd hs (seen0_none he)
      | some e =>
        rw [if_pos (ctE_writ he), Option.bind_some, if_pos ((seen0_counter g.crowd he).mp hs), hv]
        unfold Ws.seenOf
        rw [hv]
        rfl
    · rw [getL_none.mpr hs, getL_none.mpr (show n ∉ keysL k.seen by rw [f.ks]; exact hs)]
      cases he : getL (ctE l.rs) n with
      | none => split <;> rfl
      | some e =>
        rw [if_pos (ctE_writ he), Option.bind_some, if_neg fun q => hs ((seen0_counter g.crowd he).mpr q)]
        rfl
theorem Cnted.kept {u : Ws} (h : Cnted l.rs u) : Cnted l.rs (keptW l u) := fun n e he => by
  have hb : (keptW l u).bitOf n = u.bitOf n := by
    show (getL ((writ l.rs).map fun n => (n, u.bitOf n)) n).getD false = _
    rw [getL_map, if_pos (ctE_writ he)]
    rfl
  rw [hb]
  exact h n e he
theorem kept_back (f : KFits l k) (g : l.fit) : keptW l (backW l k) = k := by
  have hb : wbits l (backW l k) = k.bits := by
    refine list_ext (by rw [wbits_keys, f.kb]) (by rw [wbits_keys]; exact writ_nodup _) fun n => ?_
    show getL ((writ l.rs).map fun n => (n, (backW l k).bitOf n)) n = _
    rw [getL_map]
    by_cases hw : n ∈ writ l.rs
    · obtain ⟨v, hv⟩ := getL_mem.mpr (show n ∈ keysL k.bits by rw [f.kb]; exact hw)
      rw [if_pos hw, hv]
      have ea : getL (backW l k).bits n = some v := by
        have hi : (l.ins.map fun n => (n, false)).find? (fun p => decide (p.1 = n)) = none := by
          rw [List.find?_eq_none]
          intro p hp
          obtain ⟨m, hm, rfl⟩ := List.mem_map.mp hp
          simp only [decide_eq_true_eq]
          intro e
          subst e
          exact g.apart _ hm hw
        unfold getL at hv ⊢
        unfold backW
        rw [List.find?_append, hi]
        exact hv
      unfold Ws.bitOf
      rw [ea]
      rfl
    · rw [if_neg hw, getL_none.mpr (by rw [f.kb]; exact hw)]
  unfold keptW
  rw [hb]
  rfl
end

--%% NE
/-! ## rungs as pairs of a tree and an end -/
def Ek.kind : Ek → Str
  | .coil => ""
  | .latch => "set"
  | .unlatch => "reset"
  | .timer => "timer"
  | .counter => "counter"
/-- a rung as a pair of a tree and an end -/
def IsRT (H : Hp) (v : V) (r : Rg) : Prop := ∃ t e x, v = .ref t ∧ H t = some (.tup [x, .ref e]) ∧ H e = some (.tup [.str r.e.k.kind, .str r.e.n, .int r.e.m]) ∧ IsT H x r.c
def Rg.ok (r : Rg) : Prop := r.c.ok = true ∧ r.c.size ≤ 60 ∧ r.c.depth ≤ 20 ∧ isName r.e.n = true ∧ 1 ≤ r.e.m ∧ r.e.m ≤ 9
theorem IsRT.mono {T : Addr → Prop} {H H' : Hp} (k : Imm T H H') {v : V} {r : Rg} (p : IsRT H v r) : IsRT H' v r := by
  obtain ⟨t, e, x, e1, h1, h2, h3⟩ := p
  exact ⟨t, e, x, e1, k _ _ h1 trivial, k _ _ h2 trivial, h3.mono k⟩
theorem two_rt {H H' : Hp} {ws : List V} {rs : List Rg} (s : Same H H') (t : Two (IsRT H) ws rs) : Two (IsRT H') ws rs := t.mono fun _ _ p => p.mono (T := fun _ => False) (Same.imm s)
/-- no count's name is borne twice: by natures -/
structure Fit (nat : Str → Int) (rs : List Rg) (bn : List Str) : Prop where
  low : ∀ n, nat n ≤ 1 → (bears n rs).any id = false
  high : ∀ n, 1 < nat n → (n ∉ bn ∧ bears n rs = []) ∨ (n ∈ bn ∧ bears n rs = [true])
theorem Fit.crowd {nat : Str → Int} {rs : List Rg} {bn : List Str} (h : Fit nat rs bn) : crowd rs = false := by
  unfold My.crowd
  rw [← Bool.not_eq_true, List.any_eq_true]
  rintro ⟨r, _, hr⟩
  rw [Bool.and_eq_true, decide_eq_true_eq] at hr
  by_cases hn : nat r.e.n ≤ 1
  · rw [h.low _ hn] at hr
    exact nomatch hr.2
  · rcases h.high r.e.n (by omega) with ⟨_, e⟩ | ⟨_, e⟩ <;> rw [e] at hr <;> simp at hr
theorem Fit.un {nat : Str → Int} {rs : List Rg} {bn : List Str} {r : Rg} (h : Fit nat rs bn) (hk : r.e.k = .unlatch) : Fit nat (rs ++ [r]) bn := by
  have e : ∀ n, bears n (rs ++ [r]) = bears n rs := fun n => by rw [bears_snoc, if_neg (by rw [decide_eq_true hk]; simp)]
  exact ⟨fun n hn => by rw [e]; exact h.low n hn, fun n hn => by rw [e]; exact h.high n hn⟩
theorem Fit.plain {nat : Str → Int} {rs : List Rg} {bn : List Str} {r : Rg} (h : Fit nat rs bn) (hn : nat r.e.n ≤ 1) (hk : r.e.k.counts = false) : Fit nat (rs ++ [r]) bn := by
  refine ⟨fun n hl => ?_, fun n hl => ?_⟩
  · rw [bears_snoc]
    split
    · rw [List.any_append, h.low n hl]
      simp [hk]
    · exact h.low n hl
  · have e : ¬ r.e.n = n := fun q => by rw [q] at hn; omega
    rw [bears_snoc, if_neg (by rw [decide_eq_false e]; simp)]
    exact h.high n hl
theorem Fit.count {nat : Str → Int} {rs : List Rg} {bn : List Str} {r : Rg} (h : Fit nat rs bn) (hn : 1 < nat r.e.n) (hb : r.e.n ∉ bn) (hk : r.e.k.counts = true) : Fit nat (rs ++ [r]) (bn ++ [r.e.n]) := by
  have hu : r.e.k ≠ .unlatch := fun q => by rw [q] at hk; cases hk
  refine ⟨fun n hl => ?_, fun n hl => ?_⟩
  · have e : ¬ r.e.n = n := fun q => by rw [q] at hn; omega
    rw [bears_snoc, if_neg (by rw [decide_eq_false e]; simp)]
    exact h.low n hl
  · by_cases e : r.e.n = n
    · subst e
      refine .inr ⟨by simp, ?_⟩
      rw [bears_snoc, if_pos (by rw [decide_eq_true rfl, decide_eq_false hu]; rfl)]
      rcases h.high _ hl with ⟨_, e⟩ | ⟨q, _⟩
      · rw [e, hk]; rfl
      · exact absurd q hb
    · rw [bears_snoc, if_neg (by rw [decide_eq_false e]; simp)]
      rcases h.high n hl with ⟨q1, q2⟩ | ⟨q1, q2⟩
      · exact .inl ⟨by simp [q1]; exact fun z => e z.symm, q2⟩
      · exact .inr ⟨List.mem_append_left _ q1, q2⟩

/-! ## a small ladder, drawn, or one of relays with many inputs -/
abbrev s__law_small : Stmt := top 72
theorem sc__law_small : FnScope ["_law_script", "_law_first", "_law_far", "_law_names_here", "_law_head", "_law_one", "_law_two", "_law_three", "_law_inputs", "_law_free", "_law_great", "_law_rungs", "_law_borne", "_law_counted", "_law_k", "_law_mix", "_law_name", "_law_nature", "_law_kind", "_law_greatest", "_law_tree_here", "_law_at", "_law_outputs"] ["_law_script", "_law_first", "_law_far"] (defScope s__law_small) := ⟨rfl, rfl, rfl, by decide +kernel, rfl, by decide +kernel, by decide +kernel⟩
structure TSmall (K : PySem.W.Frag) (mg : Str → Option Value) : Prop where
  tree : TTree K mg
  nms : TNames2 K mg
  d_small : DefAt K mg "_law_small" s__law_small ["_law_script", "_law_first", "_law_far"]
  z_len : mg "len" = none
  z_range : mg "range" = none
  z_int : mg "int" = none
  z_tuple : mg "tuple" = none
theorem imm_but {T : Addr → Prop} {H H' : Hp} {p : Addr} {xs : List V} (hp : H p = some (.lst xs)) (k : But p H H') : Imm T H H' := fun a o e i => k a o e fun z => by
  subst z
  rw [hp] at e
  cases e
  cases i
def ixOf : List Str → Str → Nat
  | [], _ => 0
  | y :: l, x => if y = x then 0 else ixOf l x + 1
theorem ixOf_at {x : Str} : ∀ {l : List Str}, x ∈ l → l[ixOf l x]? = some x
  | y :: l, h => by
    rw [ixOf]
    by_cases e : y = x
    · rw [if_pos e, e]; rfl
    · rw [if_neg e, List.getElem?_cons_succ]
      exact ixOf_at ((List.mem_cons.mp h).resolve_left fun z => e z.symm)
theorem ixOf_lt {x : Str} : ∀ {l : List Str} {m : Nat} {z : Str}, m < ixOf l x → l[m]? = some z → z ≠ x
  | [], m, z, h, _ => by cases h
  | y :: l, m, z, h, hz => by
    rw [ixOf] at h
    by_cases e : y = x
    · rw [if_pos e] at h; cases h
    · rw [if_neg e] at h
      cases m with
      | zero => cases hz; exact e
      | succ m => exact ixOf_lt (Nat.lt_of_succ_lt_succ h) hz
theorem cutV_of {l : List V} {i n : Nat} (h : i + n ≤ l.length) : cutV l (some (i : Int)) (some ((i + n : Nat) : Int)) = (l.drop i).take n := by
  unfold cutV
  rw [HT.sIx_nat, HT.sIx_nat, Nat.min_eq_left h, Nat.min_eq_left (by omega : i ≤ l.length), Nat.add_sub_cancel_left]
section
variable {P : Program} {w : World} {K : PySem.W.Frag} {mg : Str → Option Value} {base : Heap}
/-- a ladder's model: a tuple of names, names, and a list of rungs -/
structure IsM (H : Hp) (t ti to p : Addr) (ws : List V) (l : Lad) : Prop where
  at_ : H t = some (.tup [.ref ti, .ref to, .ref p])
  hi : H ti = some (.tup (l.ins.map V.str))
  ho : H to = some (.tup (l.outs.map V.str))
  hp : H p = some (.lst ws)
  two : Two (IsRT H) ws l.rs
structure Lad.good (l : Lad) : Prop where
  ok : ∀ r ∈ l.rs, r.ok
  nm : ∀ n ∈ l.ins, isName n = true
  fair : l.fair = true
theorem IsM.keep {H H' : Hp} {t ti to p : Addr} {ws : List V} {l : Lad} (m : IsM H t ti to p ws l) (s : Same H H') : IsM H' t ti to p ws l := ⟨s _ _ m.at_, s _ _ m.hi, s _ _ m.ho, s _ _ m.hp, two_rt s m.two⟩

/-- few names, small counts -/
def Lad.few (l : Lad) : Prop := ∃ F : List Str, F.Nodup ∧ F.length ≤ 3 ∧ (∀ r ∈ l.rs, r.e.n ∈ F) ∧ ∀ r ∈ l.rs, r.e.m ≤ if F.length = 3 then 1 else 3
def spSmall (K : PySem.W.Frag) : Sp := fun vs H Q _ => ∃ (a : Addr) (script : List Int) (b : Int), vs = [.ref a, .int b, .bl false] ∧ SqL K H a (script.map V.int) ∧ 0 ≤ b ∧
  ∀ (H' : Hp) (t ti to p : Addr) (ws : List V) (l : Lad), Same H H' → IsM H' t ti to p ws l → l.good → l.few → Q (.ref t) H'
theorem ok_small (T : TSmall K mg) : FnAt P w K mg base CX0 "_law_small" 4 ["_law_script", "_law_first", "_law_far"] (spSmall K) := by
  have G__law_mixed : FnAt P w K mg base CX0 "_law_mixed" 1 _ spMixed := ok_mixed T.tree.cells
  have G__law_cell_at : FnAt P w K mg base CX0 "_law_cell_at" 2 _ (spCellAt K) := ok_cell_at T.tree.cells
  have G__law_tree : FnAt P w K mg base CX0 "_law_tree" 2 _ spTree := ok_tree T.tree
  have G__law_names : FnAt P w K mg base CX0 "_law_names" 2 _ spNames := ok_names T.nms
  refine fnAt_ok T.d_small sc__law_small (fun vs H Q E h => ?_) (fun f cdv A outer s H vs Q E hr h => ?_)
  · obtain ⟨a, script, b, rfl, _⟩ := h; rfl
  · obtain ⟨a, script, b, rfl, hs, hb, k⟩ := h
    have hu := hu_of hr
    refine ⟨_, (pss_cons (ps_set (i := 3) sc__law_small.nd rfl (by first | exact Or.inl rfl | exact Or.inr rfl) (pe_callF G__law_names hr pass0 (pa_cons (pe_callF G__law_cell_at hr pass0 (pa_cons (pv 0) (pa_cons (pv 1) pa_nil))) (pa_cons pe_int pa_nil))))
        (pss_cons (ps_set (i := 4) sc__law_small.nd rfl (by first | exact Or.inl rfl | exact Or.inr rfl) (pe_callF G__law_cell_at hr pass0 (pa_cons (pv 0) (pa_cons (pe_op op_add (pv 1) pe_int) pa_nil))))
        (pss_cons (ps_set (i := 5) sc__law_small.nd rfl (by first | exact Or.inl rfl | exact Or.inr rfl) (pe_callF G__law_mixed hr pass0 (pa_cons (pv 4) (pa_cons pe_int pa_nil))))
        (pss_cons (ps_set (i := 6) sc__law_small.nd rfl (by first | exact Or.inl rfl | exact Or.inr rfl) (pe_callF G__law_mixed hr pass0 (pa_cons (pv 4) (pa_cons pe_int pa_nil))))
        (pss_cons (ps_set (i := 7) sc__law_small.nd rfl (by first | exact Or.inl rfl | exact Or.inr rfl) (pe_callF G__law_mixed hr pass0 (pa_cons (pv 4) (pa_cons pe_int pa_nil))))
        (pss_cons (ps_set (i := 8) sc__law_small.nd rfl (by first | exact Or.inl rfl | exact Or.inr rfl) (pe_slice sl_list (pv 3) po_none (po_some (pe_ix ix_list (pe_lst (pa_cons (pe_op op_add pe_int (pe_op op_mod (pv 5) pe_int)) (pa_cons pe_int (pa_cons pe_int pa_nil)))) (pe_op op_add (pe_callTy call_int1 (by rfl) T.z_int (show PySem.bootBuiltins "int" = some (.type "int") by decide +kernel) (pa_cons (pe_cmpR op_eq (pe_op op_mod (pe_op op_fdiv (pv 5) pe_int) pe_int) pe_int (nomark _)) pa_nil)) (pe_op op_mul pe_int (pe_callTy call_int1 (by rfl) T.z_int (show PySem.bootBuiltins "int" = some (.type "int") by decide +kernel) (pa_cons (pe_cmpR op_eq (pe_op op_mod (pe_op op_fdiv (pv 5) pe_int) pe_int) pe_int (nomark _)) pa_nil)))) (fun _ _ => rfl)))))
        (pss_cons (ps_set (i := 9) sc__law_small.nd rfl (by first | exact Or.inl rfl | exact Or.inr rfl) (pe_slice sl_list (pv 3) (po_some pe_int) (po_some (pe_op op_add pe_int (pe_ix ix_list (pe_lst (pa_cons (pe_op op_mod (pv 6) pe_int) (pa_cons pe_int pa_nil))) (pe_callTy call_int1 (by rfl) T.z_int (show PySem.bootBuiltins "int" = some (.type "int") by decide +kernel) (pa_cons (pe_cmpR op_eq (pe_op op_mod (pe_op op_fdiv (pv 6) pe_int) pe_int) pe_int (nomark _)) pa_nil)) (fun _ _ => rfl))))))
        (pss_cons (ps_set (i := 10) sc__law_small.nd rfl (by first | exact Or.inl rfl | exact Or.inr rfl) (pe_cmpR op_eq (pe_op op_mod (pe_op op_fdiv (pv 7) pe_int) pe_int) pe_int (nomark _)))
        (C8.pss_cut (ps_if (pt_val (pv 10)) (pss_cons (ps_set (i := 8) sc__law_small.nd rfl (by first | exact Or.inl rfl | exact Or.inr rfl) (pe_slice sl_list (pv 3) (po_some pe_int) (po_some (pe_op op_add pe_int (pe_op op_mod (pe_op op_fdiv (pv 5) pe_int) pe_int)))))
          (pss_one (ps_set (i := 9) sc__law_small.nd rfl (by first | exact Or.inl rfl | exact Or.inr rfl) (pe_slice sl_list (pv 9) po_none (po_some pe_int))))) pss_nil)
        (pss_cons (ps_set (i := 11) sc__law_small.nd rfl (by first | exact Or.inl rfl | exact Or.inr rfl) (pe_lst pa_nil))
        (pss_cons (ps_set (i := 12) sc__law_small.nd rfl (by first | exact Or.inl rfl | exact Or.inr rfl) (pe_lst pa_nil))
        (pss_cons (ps_set (i := 13) sc__law_small.nd rfl (by first | exact Or.inl rfl | exact Or.inr rfl) (pe_lst pa_nil))
        (pss_cons (ps_for PassesOwn.never rfl (pi_range1 rfl T.z_range (pa_cons (pe_ix ix_list (pe_lst (pa_cons (pe_op op_add pe_int (pe_op op_mod (pv 7) pe_int)) (pa_cons pe_int pa_nil))) (pe_callTy call_int1 (by rfl) T.z_int (show PySem.bootBuiltins "int" = some (.type "int") by decide +kernel) (pa_cons (pe_cmpR op_eq (pe_op op_mod (pe_op op_fdiv (pv 7) pe_int) pe_int) pe_int (nomark _)) pa_nil)) (fun _ _ => rfl)) pa_nil)) (pg_name (i := 14) sc__law_small.nd rfl (by first | exact Or.inl rfl | exact Or.inr rfl)) (pss_cons (ps_set (i := 15) sc__law_small.nd rfl (by first | exact Or.inl rfl | exact Or.inr rfl) (pe_callF G__law_mixed hr pass0 (pa_cons (pe_callF G__law_cell_at hr pass0 (pa_cons (pv 0) (pa_cons (pe_op op_add (pe_op op_add (pv 1) pe_int) (pe_op op_mod (pv 14) pe_int)) pa_nil))) (pa_cons (pv 14) pa_nil))))
          (pss_cons (ps_set (i := 16) sc__law_small.nd rfl (by first | exact Or.inl rfl | exact Or.inr rfl) (pe_ix ix_list (pv 9) (pe_op op_mod (pv 15) (pe_callB call_len_seq (by rfl) T.z_len PySem.boot_len (pa_cons (pv 9) pa_nil))) (fun _ _ => rfl)))
          (pss_cons (ps_set (i := 17) sc__law_small.nd rfl (by first | exact Or.inl rfl | exact Or.inr rfl) (pe_op op_mod (pe_callF G__law_mixed hr pass0 (pa_cons (pv 4) (pa_cons (pe_op op_add pe_int (pe_bm PySem.F.plainAttrs_list PySem.F.slot_list_index PySem.F.type_list_index mt_index (pv 9) (pa_cons (pv 16) pa_nil))) pa_nil))) pe_int))
          (pss_cons (ps_set (i := 18) sc__law_small.nd rfl (by first | exact Or.inl rfl | exact Or.inr rfl) (pe_ix ix_list (pe_lst (pa_cons pe_str (pa_cons pe_str (pa_cons pe_str pa_nil)))) (pe_op op_mod (pe_op op_fdiv (pv 15) pe_int) pe_int) (fun _ _ => rfl)))
          (C8.pss_cut (ps_if (PW.pt (pw_and (pt_cmpR op_gt (pv 17) pe_int (nomark _)) (pw_and1 (pt_not (pt_val (pv 10)))))) (pss_cons (ps_set (i := 18) sc__law_small.nd rfl (by first | exact Or.inl rfl | exact Or.inr rfl) pe_str)
            (pss_one (ps_if (PW.pt (pw_and (pt_cmpR op_notIn_seq (pv 16) (pv 13) rfl) (pw_and1 (pt_cmpR op_gt (pe_op op_mod (pe_op op_fdiv (pv 15) pe_int) pe_int) pe_int (nomark _))))) (pss_cons (ps_set (i := 18) sc__law_small.nd rfl (by first | exact Or.inl rfl | exact Or.inr rfl) (pe_ix ix_list (pe_lst (pa_cons pe_str (pa_cons pe_str pa_nil))) (pe_op op_sub (pv 17) pe_int) (fun _ _ => rfl)))
              (pss_one (ps_expr (pe_bm PySem.F.plainAttrs_list PySem.F.slot_list_append PySem.F.type_list_append mt_append (pv 13) (pa_cons (pv 16) pa_nil))))) pss_nil))) pss_nil)
          (C8.pss_cut (ps_if (pt_cmpR op_notIn_seq (pv 16) (pv 12) rfl) (pss_one (ps_expr (pe_bm PySem.F.plainAttrs_list PySem.F.slot_list_append PySem.F.type_list_append mt_append (pv 12) (pa_cons (pv 16) pa_nil)))) pss_nil)
          (pss_cons (ps_set (i := 19) sc__law_small.nd rfl (by first | exact Or.inl rfl | exact Or.inr rfl) (pe_op op_add pe_int (pe_op op_mod (pe_op op_fdiv (pv 15) pe_int) (pe_ix ix_list (pe_lst (pa_cons (pe_ix ix_list (pe_lst (pa_cons pe_int (pa_cons pe_int (pa_cons pe_int pa_nil)))) (pe_op op_sub (pe_callB call_len_seq (by rfl) T.z_len PySem.boot_len (pa_cons (pv 9) pa_nil)) pe_int) (fun _ _ => rfl)) (pa_cons pe_int pa_nil))) (pe_callTy call_int1 (by rfl) T.z_int (show PySem.bootBuiltins "int" = some (.type "int") by decide +kernel) (pa_cons (pv 2) pa_nil)) (fun _ _ => rfl)))))
          (pss_cons (ps_set (i := 20) sc__law_small.nd rfl (by first | exact Or.inl rfl | exact Or.inr rfl) (pe_callF G__law_tree hr pass0 (pa_cons (pv 15) (pa_cons (pe_op op_add pe_int (pe_op op_mod (pe_op op_fdiv (pv 15) pe_int) pe_int)) (pa_cons (pe_op op_cat (pv 8) (pe_slice sl_list (pv 3) (po_some pe_int) (po_some pe_int))) pa_nil)))))
          (C8.pss_cut (ps_if (PW.pt (pw_and (pt_val (pv 10)) (pw_and1 (pt_cmpR op_eq (pe_op op_mod (pe_op op_fdiv (pv 15) pe_int) pe_int) pe_int (nomark _))))) (pss_one (ps_set (i := 20) sc__law_small.nd rfl (by first | exact Or.inl rfl | exact Or.inr rfl) (pe_tup (pa_cons pe_str (pa_cons (pe_tup (pa_cons pe_str (pa_cons (pe_ix ix_list (pv 8) (pe_un un_neg pe_int) (fun _ _ => rfl)) pa_nil))) (pa_cons (pe_tup (pa_cons pe_str (pa_cons (pe_ix ix_list (pv 8) (pe_op op_mod (pe_op op_fdiv (pv 15) pe_int) (pe_callB call_len_seq (by rfl) T.z_len PySem.boot_len (pa_cons (pv 8) pa_nil))) (fun _ _ => rfl)) pa_nil))) pa_nil)))))) pss_nil)
          (pss_one (ps_expr (pe_bm PySem.F.plainAttrs_list PySem.F.slot_list_append PySem.F.type_list_append mt_append (pv 11) (pa_cons (pe_tup (pa_cons (pv 20) (pa_cons (pe_tup (pa_cons (pv 18) (pa_cons (pv 16) (pa_cons (pv 19) pa_nil)))) pa_nil))) pa_nil))))))))))))))
        (pss_cons (ps_set (i := 21) sc__law_small.nd rfl (by first | exact Or.inl rfl | exact Or.inr rfl) (pe_op op_mod (pe_op op_fdiv (pv 7) pe_int) (pe_callB call_len_seq (by rfl) T.z_len PySem.boot_len (pa_cons (pv 12) pa_nil))))
        (pss_cons (ps_set (i := 22) sc__law_small.nd rfl (by first | exact Or.inl rfl | exact Or.inr rfl) (pe_slice sl_list (pe_op op_cat (pe_slice sl_list (pv 12) (po_some (pv 21)) po_none) (pe_slice sl_list (pv 12) po_none (po_some (pv 21)))) po_none (po_some (pe_op op_add pe_int (pe_op op_mod (pe_op op_fdiv (pv 6) pe_int) (pe_callB call_len_seq (by rfl) T.z_len PySem.boot_len (pa_cons (pv 12) pa_nil)))))))
        (pss_one (ps_ret (pe_tup (pa_cons (pe_callTy call_tuple_of (by rfl) T.z_tuple (show PySem.bootBuiltins "tuple" = some (.type "tuple") by decide +kernel) (pa_cons (pv 8) pa_nil)) (pa_cons (pe_callTy call_tuple_of (by rfl) T.z_tuple (show PySem.bootBuiltins "tuple" = some (.type "tuple") by decide +kernel) (pa_cons (pv 22) pa_nil)) (pa_cons (pv 11) pa_nil))))))))))))))))))))), ?_⟩
    walk_at "rd"
    refine ⟨a, script, b, rfl, hs, hb, fun c0 hc0 _ _ => ⟨c0, 14, rfl, hc0, by decide, by decide, fun H1 pN ns s1 nN hN => ⟨a, script, b + 1, rfl, Same.seq s1 hs, by omega, fun hd hd0 _ _ => ⟨hd, 1, rfl, ?_⟩⟩⟩⟩
    refine ⟨hd, 2, rfl, hd, 3, rfl, ?_⟩
    generalize mixed hd 1 = one
    have htwo := mixed_nn hd 2
    generalize mixed hd 2 = two at htwo ⊢
    generalize mixed hd 3 = three
    have hns9 : ns.length = 14 := hN.len
    refine ⟨_, rfl, line_ge (by decide), fun p1 n1 => ⟨_, rfl, _, rfl, ?_⟩⟩
    obtain ⟨m, hm, hm3⟩ : ∃ m : Nat, atI [V.int (1 + one % 2), V.int 3, V.int 0] ((if decide (one / 2 % 8 = 1) = true then 1 else 0) + 2 * if decide (one / 2 % 8 = 2) = true then 1 else 0) = some (.int (m : Int)) ∧ m ≤ 3 := by
      by_cases e1 : one / 2 % 8 = 1
      · exact ⟨3, by rw [decide_eq_true e1, decide_eq_false (by omega)]; rfl, by decide⟩
      · by_cases e2 : one / 2 % 8 = 2
        · exact ⟨0, by rw [decide_eq_false e1, decide_eq_true e2]; rfl, by decide⟩
        · refine ⟨(1 + one % 2).toNat, ?_, by omega⟩
          rw [decide_eq_false e1, decide_eq_false e2, Int.toNat_of_nonneg (by omega)]
          rfl
    refine ⟨p1, _, _, _, rfl, rfl, SqL.of upd_same, hm, _, rfl, pN, _, rfl, SqL.of (Same.new n1 _ _ hN.at_), fun p2 n2 => ?_⟩
    rw [cutV_to, ← List.map_take]
    have t1 := Same.new (o := .lst [V.int (1 + one % 2), .int 3, .int 0]) n1
    have t2 := t1.trans (Same.new (o := .lst ((ns.take m).map V.str)) n2)
    refine ⟨_, rfl, line_ge (by decide), fun p3 n3 => ⟨_, rfl, ?_⟩⟩
    have t3 := t2.trans (Same.new (o := .lst [V.int (two % 2), .int 2]) n3)
    obtain ⟨q, hq, hq2⟩ : ∃ q : Nat, atI [V.int (two % 2), V.int 2] (if decide (two / 2 % 8 = 1) = true then 1 else 0) = some (.int (q : Int)) ∧ q ≤ 2 := by
      by_cases e1 : two / 2 % 8 = 1
      · exact ⟨2, by rw [decide_eq_true e1]; rfl, by decide⟩
      · refine ⟨(two % 2).toNat, ?_, by omega⟩
        rw [decide_eq_false e1, Int.toNat_of_nonneg (by omega)]
        rfl
    refine ⟨p3, _, _, _, rfl, rfl, SqL.of upd_same, hq, _, rfl, pN, _, rfl, SqL.of (t3 _ _ hN.at_), fun p4 n4 => ?_⟩
    have e4 : cutV (ns.map V.str) (some 4) (some (5 + (q : Int))) = ((ns.drop 4).take (1 + q)).map V.str := by
      rw [show (4 : Int) = ((4 : Nat) : Int) from rfl, show (5 : Int) + (q : Int) = ((4 + (1 + q) : Nat) : Int) by omega, cutV_of (by rw [List.length_map, hns9]; omega), ← List.map_drop, ← List.map_take]
    rw [e4]
    have t4 := t3.trans (Same.new (o := .lst (((ns.drop 4).take (1 + q)).map V.str)) n4)
    have hfree : upd (upd (upd (upd H1 p1 (.lst [V.int (1 + one % 2), .int 3, .int 0])) p2 (.lst ((ns.take m).map V.str))) p3 (.lst [V.int (two % 2), .int 2])) p4 (.lst (((ns.drop 4).take (1 + q)).map V.str)) p4 = some (.lst (((ns.drop 4).take (1 + q)).map V.str)) := upd_same
    have hins := ((Same.new (o := .lst [V.int (two % 2), .int 2]) n3).trans (Same.new (o := .lst (((ns.drop 4).take (1 + q)).map V.str)) n4)) _ _ (upd_same (H := upd H1 p1 (.lst [V.int (1 + one % 2), .int 3, .int 0])) (a := p2) (o := .lst ((ns.take m).map V.str)))
    have hnms := t4 _ _ hN.at_
    have s4 := s1.trans t4
    have hfl : ((ns.drop 4).take (1 + q)).length = 1 + q := by rw [List.length_take, List.length_drop]; omega
    generalize upd (upd (upd (upd H1 p1 (.lst [V.int (1 + one % 2), .int 3, .int 0])) p2 (.lst ((ns.take m).map V.str))) p3 (.lst [V.int (two % 2), .int 2])) p4 (.lst (((ns.drop 4).take (1 + q)).map V.str)) = H4 at s4 hfree hins hnms ⊢
    clear t1 t2 t3 t4
    have hfok : ∀ n ∈ (ns.drop 4).take (1 + q), isName n = true := fun n hn => hN.ok n (List.mem_of_mem_drop (List.mem_of_mem_take hn))
    have hfnd : ((ns.drop 4).take (1 + q)).Nodup := (hN.nd.sublist (List.drop_sublist _ _)).sublist (List.take_sublist _ _)
    have hfni : ∀ n ∈ (ns.drop 4).take (1 + q), n ∉ ns.take m := fun n hn hi => by
      have e := hN.nd
      rw [← List.take_append_drop 4 ns, List.nodup_append] at e
      exact e.2.2 n ((List.take_subset_take_left (l := ns) (by omega : m ≤ 4)) hi) n (List.mem_of_mem_take hn) rfl
    have hf8 : ∀ n ∈ (ns.drop 4).take (1 + q), n ∈ ns.take 8 := fun n hn => by
      have e : ns.take 8 = ns.take 4 ++ (ns.drop 4).take 4 := by
        rw [← List.take_add]
      rw [e]
      refine List.mem_append_right _ ((List.take_subset_take_left (l := ns.drop 4) (by omega : 1 + q ≤ 4)) hn)
    generalize (ns.drop 4).take (1 + q) = fr at hfree hfl hfok hfnd hfni hf8 ⊢
    refine ⟨three, rfl, ?_⟩
    generalize hgb : decide (three / 512 % 8 = 1) = gb
    refine ⟨fun σ' H' => ∃ (p2 p4 : Addr) (ins fr : List Str), σ' = [some (.ref a), some (.int b), some (.bl false), some (.ref pN), some (.int hd), some (.int one), some (.int two), some (.int three), some (.ref p2), some (.ref p4), some (.bl gb), none, none, none, none, none, none, none, none, none, none, none, none] ∧ Same H4 H' ∧ H' p2 = some (.lst (ins.map V.str)) ∧ H' p4 = some (.lst (fr.map V.str)) ∧ ins.length ≤ 6 ∧ ins.Nodup ∧ (∀ n ∈ ins, isName n = true) ∧ (1 ≤ fr.length ∧ fr.length ≤ 3) ∧ fr.Nodup ∧ (∀ n ∈ fr, isName n = true) ∧ (∀ n ∈ fr, n ∉ ins) ∧ (gb = true → ins ≠ []), ?_, ?_⟩
    · walk_at "rd"
      cases gb with
      | false => exact iteF ⟨_, _, ⟨rfl, rfl⟩, Same.refl _, _, hins, _, hfree, by rw [List.length_take]; omega, hN.nd.sublist (List.take_sublist _ _), fun n hn => hN.ok n (List.mem_of_mem_take hn), by omega, hfnd, hfok, hfni, fun z => absurd z (by decide)⟩
      | true =>
        refine iteT ?_
        obtain ⟨z, hz, hz2⟩ : ∃ z : Nat, one / 16 % 3 = (z : Int) ∧ z ≤ 2 := ⟨(one / 16 % 3).toNat, by omega, by omega⟩
        have e8 : cutV (ns.map V.str) (some 8) (some (12 + one / 16 % 3)) = ((ns.drop 8).take (4 + z)).map V.str := by
          rw [hz, show (8 : Int) = ((8 : Nat) : Int) from rfl, show (12 : Int) + (z : Int) = ((8 + (4 + z) : Nat) : Int) by omega, cutV_of (by rw [List.length_map, hns9]; omega), ← List.map_drop, ← List.map_take]
        refine ⟨pN, _, rfl, SqL.of hnms, fun p5 n5 => ?_⟩
        rw [e8]
        have u1 := Same.new (o := .lst (((ns.drop 8).take (4 + z)).map V.str)) n5
        refine ⟨p4, _, rfl, SqL.of (u1 _ _ hfree), fun p6 n6 => ?_⟩
        have e2 : cutV (fr.map V.str) none (some 2) = (fr.take 2).map V.str := by
          rw [show (2 : Int) = ((2 : Nat) : Int) from rfl, cutV_to, ← List.map_take]
        rw [e2]
        have u2 := Same.new (o := .lst ((fr.take 2).map V.str)) n6
        refine ⟨_, _, ⟨rfl, rfl⟩, u1.trans u2, _, u2 _ _ upd_same, _, upd_same, by rw [List.length_take]; omega, (hN.nd.sublist (List.drop_sublist _ _)).sublist (List.take_sublist _ _), fun n hn => hN.ok n (List.mem_of_mem_drop (List.mem_of_mem_take hn)), by rw [List.length_take]; omega, hfnd.sublist (List.take_sublist _ _), fun n hn => hfok n (List.mem_of_mem_take hn), fun n hn hi => ?_, fun _ z' => ?_⟩
        · have e := hN.nd
          rw [← List.take_append_drop 8 ns, List.nodup_append] at e
          exact e.2.2 n (hf8 n (List.mem_of_mem_take hn)) n (List.mem_of_mem_take hi) rfl
        · have := congrArg List.length z'
          rw [List.length_take, List.length_drop] at this
          simp at this
          omega
    rintro σ' H4' ⟨p2', p4', ins, fr', rfl, s44, hins', hfree', il, ind, iok, ⟨fl1, fl3⟩, fnd, fok, fni, hgi⟩
    have hnms' := s44 _ _ hnms
    have s4' := s4.trans s44
    clear hins hfree hfl hfok hfnd hfni hf8 hm hm3 hq hq2 s44 hnms s4
    walk_at "rd"
    refine ⟨Nat.zero_le _, fun pr npr => ⟨Nat.zero_le _, fun pb npb => ⟨Nat.zero_le _, fun pc npc => ?_⟩⟩⟩
    have r1 := Same.new (o := .lst []) npr
    have hr1 := upd_same (H := H4') (a := pr) (o := .lst [])
    generalize upd H4' pr (.lst []) = G1 at npb npc r1 hr1 ⊢
    have r2 := Same.new (o := .lst []) npb
    have hr2 := r2 _ _ hr1
    have hb2 := upd_same (H := G1) (a := pb) (o := .lst [])
    have npb4 : H4' pb = none := r1.free npb
    have nrb : pr ≠ pb := ne_of_none hr1 npb
    generalize upd G1 pb (.lst []) = G2 at npc r2 hr2 hb2 ⊢
    have r3 := Same.new (o := .lst []) npc
    have hr3 := r3 _ _ hr2
    have hb3 := r3 _ _ hb2
    have hc3 := upd_same (H := G2) (a := pc) (o := .lst [])
    have npc4 : H4' pc = none := (r1.trans r2).free npc
    have nrc : pr ≠ pc := ne_of_none hr2 npc
    have nbc : pb ≠ pc := ne_of_none hb2 npc
    have s43 := (r1.trans r2).trans r3
    generalize upd G2 pc (.lst []) = H5 at s43 hr3 hb3 hc3 ⊢
    clear r1 r2 r3 hr1 hr2 hb2
    walk_at "rd"
    obtain ⟨N, hN1, hN2⟩ : ∃ N : Nat, atI [V.int (1 + three % 4), V.int 6] (if decide (three / 4 % 8 = 1) = true then 1 else 0) = some (.int (N : Int)) ∧ 1 ≤ N ∧ N ≤ 6 := by
      by_cases e1 : three / 4 % 8 = 1
      · exact ⟨6, by rw [decide_eq_true e1]; rfl, by decide, by decide⟩
      · refine ⟨(1 + three % 4).toNat, ?_, by omega, by omega⟩
        rw [decide_eq_false e1, Int.toNat_of_nonneg (by omega)]
        rfl
    refine ⟨_, rfl, _, _, rfl, rfl, (by decide : (0 : Int) < 4), _, _, rfl, rfl, line_ge (by show 2 ≤ 1000000; decide), fun p6 n6 => ?_⟩
    refine ⟨_, rfl, _, _, rfl, rfl, (by decide : (0 : Int) < 4 ∧ (4 : Int) < 1073741824), _, _, rfl, rfl, (by decide : (0 : Int) < 8), scal_ii, .inr ⟨_, rfl, p6, _, _, .int (N : Int), rfl, rfl, SqL.of upd_same, (by simpa using hN1), ?_⟩⟩
    have s46 := s43.trans (Same.new (o := .lst [V.int (1 + three % 4), .int 6]) n6)
    have hr6 := (Same.new (o := .lst [V.int (1 + three % 4), .int 6]) n6) _ _ hr3
    have hb6 := (Same.new (o := .lst [V.int (1 + three % 4), .int 6]) n6) _ _ hb3
    have hc6 := (Same.new (o := .lst [V.int (1 + three % 4), .int 6]) n6) _ _ hc3
    show ∃ j : Int, [V.int (N : Int)] = [.int j] ∧ -(2 ^ 62) ≤ j ∧ j < 2 ^ 62 ∧ _
    refine ⟨_, rfl, by omega, by omega, ?_⟩
    rw [show ((N : Int)).toNat = N from rfl]
    refine for_range (lo := 0) (n := N) (fun i σ H' => ∃ (v13 v14 v15 v16 v17 v18 v19 : Option V) (ws : List V) (rs : List Rg) (bn : List Str), σ = [some (.ref a), some (.int b), some (.bl false), some (.ref pN), some (.int hd), some (.int one), some (.int two), some (.int three), some (.ref p2'), some (.ref p4'), some (.bl gb), some (.ref pr), some (.ref pb), some (.ref pc), v13, v14, v15, v16, v17, v18, v19, none, none] ∧ Same H4' H' ∧
        H' pr = some (.lst ws) ∧ H' pb = some (.lst ((writ rs).map V.str)) ∧ H' pc = some (.lst (bn.map V.str)) ∧ Two (IsRT H') ws rs ∧ rs.length = i ∧ bn.length ≤ i ∧ (∀ r ∈ rs, r.ok) ∧ (∀ r ∈ rs, r.e.n ∈ fr') ∧ (∀ r ∈ rs, r.e.m ≤ if fr'.length = 3 then 1 else 3) ∧ Fit (fun n => if gb = true then 0 else mixed hd (70 + (ixOf fr' n : Nat)) % 4) rs bn)
      ⟨none, none, none, none, none, none, none, [], [], [], rfl, s46, hr6, hb6, hc6, .nil, rfl, Nat.le_refl _, by simp, by simp, by simp, fun n _ => rfl, fun n _ => .inl ⟨by simp, rfl⟩⟩ ?_ ?_
    · rintro i σ G hi ⟨v13, v14, v15, v16, v17, v18, v19, ws, rs, bn, rfl, sG, hrG, hbG, hcG, htw, hrl, hbl, hok, hnm, hmb, hfit⟩
      walk_at "rd"
      refine ⟨a, script, b + 2 + (0 + (i : Int)) % 3, rfl, Same.seq (s4'.trans sG) hs, by omega, fun cell _ _ _ => ⟨cell, 0 + (i : Int), rfl, ?_⟩⟩
      generalize mixed cell (0 + (i : Int)) = mix
      have hfG := sG _ _ hfree'
      have hfpos : (0 : Int) < ((fr'.map V.str).length : Int) := by rw [List.length_map]; omega
      obtain ⟨y, hy, hya⟩ := atI_ex (xs := fr'.map V.str) (i := mix % ((fr'.map V.str).length : Int)) (Int.emod_nonneg _ (by omega)) (Int.emod_lt_of_pos _ hfpos)
      obtain ⟨nm, hnmf, rfl⟩ := List.mem_map.mp hy
      refine ⟨_, .inl (SqL.of hfG), _, rfl, hfpos, p4', _, _, .str nm, rfl, rfl, SqL.of hfG, hya, ?_⟩
      unfold tBM
      walk_at "rd"
      refine ⟨.inl ⟨rfl, _, SqL.of hfG⟩, p4', _, .str nm, ixOf fr' nm, .str nm, rfl, rfl, SqL.of hfG, rfl, flat_strs _, by rw [List.getElem?_map, ixOf_at hnmf]; rfl, by simp [eqV], fun m' z' hm' hz' => ?_, ?_⟩
      · rw [List.getElem?_map] at hz'
        obtain ⟨z, hz, rfl⟩ := Option.map_eq_some_iff.mp hz'
        have := ixOf_lt hm' hz
        simp [eqV, this]
      refine ⟨_, rfl, hd, 70 + (ixOf fr' nm : Nat), rfl, ?_⟩
      have hnat0 : 0 ≤ mixed hd (70 + (ixOf fr' nm : Nat)) % 4 := Int.emod_nonneg _ (by decide)
      have hnat4 : mixed hd (70 + (ixOf fr' nm : Nat)) % 4 < 4 := Int.emod_lt_of_pos _ (by decide)
      have hnatE : (fun n => if gb = true then 0 else mixed hd (70 + (ixOf fr' n : Nat)) % 4) nm = if gb = true then 0 else mixed hd (70 + (ixOf fr' nm : Nat)) % 4 := rfl
      generalize hNAT : (fun n => if gb = true then 0 else mixed hd (70 + (ixOf fr' n : Nat)) % 4) = NAT at hfit hnatE ⊢
      refine ⟨_, rfl, ?_⟩
      generalize mixed hd (70 + (ixOf fr' nm : Nat)) % 4 = nt at hnat0 hnat4 hnatE ⊢
      generalize hne : (if gb = true then 0 else nt) = ne at hnatE
      refine ⟨line_ge (by decide), fun p7 n7 => ?_⟩
      obtain ⟨kd, hkd, hkc⟩ : ∃ kd : Ek, atI [V.str "", V.str "set", V.str "reset"] (mix / 8 % 3) = some (.str kd.kind) ∧ kd.counts = false := by
        rcases (show mix / 8 % 3 = 0 ∨ mix / 8 % 3 = 1 ∨ mix / 8 % 3 = 2 by omega) with e | e | e
        · exact ⟨.coil, by rw [e]; rfl, rfl⟩
        · exact ⟨.latch, by rw [e]; rfl, rfl⟩
        · exact ⟨.unlatch, by rw [e]; rfl, rfl⟩
      refine ⟨p7, _, _, _, rfl, rfl, SqL.of upd_same, hkd, ?_⟩
      have g7 := Same.new (o := .lst [.str "", .str "set", .str "reset"]) n7
      have sG7 := sG.trans g7
      have hr7 := g7 _ _ hrG
      have hb7 := g7 _ _ hbG
      have hc7 := g7 _ _ hcG
      have htw7 := two_rt g7 htw
      show C8.tCut _ _ _ _ (upd G p7 (.lst [.str "", .str "set", .str "reset"]))
      generalize upd G p7 (.lst [.str "", .str "set", .str "reset"]) = G7 at sG7 hr7 hb7 hc7 htw7 ⊢
      refine ⟨fun σ' H' => ∃ (k : Ek) (bn' : List Str), σ' = [some (.ref a), some (.int b), some (.bl false), some (.ref pN), some (.int hd), some (.int one), some (.int two), some (.int three), some (.ref p2'), some (.ref p4'), some (.bl gb), some (.ref pr), some (.ref pb), some (.ref pc), some (.int (0 + (i : Int))), some (.int mix), some (.str nm), some (.int nt), some (.str k.kind), v18, v19, none, none] ∧ But pc G7 H' ∧ H' pc = some (.lst (bn'.map V.str)) ∧
        ((bn' = bn ∧ ((ne ≤ 1 ∧ k.counts = false) ∨ k = .unlatch)) ∨ (bn' = bn ++ [nm] ∧ 1 < ne ∧ nm ∉ bn ∧ k.counts = true)), ?_, ?_⟩
      · walk_at "rd"
        refine ite2 (fun h1 => ?_) (fun h1 => ⟨kd, rfl, fun _ _ e _ => e, bn, hc7, .inl ⟨rfl, .inl ⟨by have : ¬ 1 < nt := fun z => h1 (decide_eq_true z); rw [← hne]; split <;> omega, hkc⟩⟩⟩)
        have hn0 : 1 < nt := of_decide_eq_true h1
        refine ite2 (fun h2 => ?_) (fun h2 => ⟨kd, rfl, fun _ _ e _ => e, bn, hc7, .inl ⟨rfl, .inl ⟨by
          cases gb with
          | true => rw [← hne, if_pos rfl]; decide
          | false => exact absurd rfl h2, hkc⟩⟩⟩)
        have hn1 : 1 < ne := by
          cases gb with
          | true => cases h2
          | false => rw [← hne, if_neg (by decide)]; exact hn0
        refine ⟨pc, _, rfl, .inl (SqL.of hc7), rfl, flat_strs _, _, rfl, ?_⟩
        rw [if_pos rfl, inV_strs]
        refine ite2 (fun h2 => ite2 (fun h3 => ⟨line_ge (by decide), fun p8 n8 => ?_⟩) (fun _ => ⟨.unlatch, rfl, fun _ _ e _ => e, bn, hc7, .inl ⟨rfl, .inr rfl⟩⟩)) (fun _ => ⟨.unlatch, rfl, fun _ _ e _ => e, bn, hc7, .inl ⟨rfl, .inr rfl⟩⟩)
        have nin : nm ∉ bn := fun z => by rw [decide_eq_true z] at h2; cases h2
        obtain ⟨k2, hk2, hk2c⟩ : ∃ k2 : Ek, atI [V.str "timer", V.str "counter"] (nt - 2) = some (.str k2.kind) ∧ k2.counts = true := by
          rcases (show nt - 2 = 0 ∨ nt - 2 = 1 by omega) with e | e
          · exact ⟨.timer, by rw [e]; rfl, rfl⟩
          · exact ⟨.counter, by rw [e]; rfl, rfl⟩
        have g8 := Same.new (o := .lst [.str "timer", .str "counter"]) n8
        have hc8 := g8 _ _ hc7
        refine ⟨p8, _, _, _, rfl, rfl, SqL.of upd_same, hk2, .inl ⟨rfl, _, SqL.of hc8⟩, pc, _, _, rfl, rfl, hc8, by rw [List.length_map, sizeLine_eq]; omega, k2, rfl, fun a o e na => by rw [upd_ne na]; exact g8 _ _ e, bn ++ [nm], by rw [upd_same, List.map_append]; rfl, .inr ⟨rfl, hn1, nin, hk2c⟩⟩
      rintro σ' G8 ⟨kk, bn', rfl, bG8, hc8, hcase⟩
      have sG8 : Same H4' G8 := fun a o e => bG8 _ _ (sG7 _ _ e) (ne_of_none e npc4)
      have hr8 := bG8 _ _ hr7 nrc
      have hb8 := bG8 _ _ hb7 nbc
      have htw8 : Two (IsRT G8) ws rs := htw7.mono fun _ _ p => p.mono (T := fun _ => False) (imm_but hc7 bG8)
      clear htw7 hr7 hb7
      walk_at "rd"
      refine ⟨fun σ' H' => σ' = [some (.ref a), some (.int b), some (.bl false), some (.ref pN), some (.int hd), some (.int one), some (.int two), some (.int three), some (.ref p2'), some (.ref p4'), some (.bl gb), some (.ref pr), some (.ref pb), some (.ref pc), some (.int (0 + (i : Int))), some (.int mix), some (.str nm), some (.int nt), some (.str kk.kind), v18, v19, none, none] ∧ But pb G8 H' ∧ H' pb = some (.lst ((addW (writ rs) nm).map V.str)), ?_, ?_⟩
      · walk_at "rd"
        have hwl := writ_len rs
        refine ⟨pb, _, rfl, .inl (SqL.of hb8), rfl, flat_strs _, _, rfl, ?_⟩
        rw [if_pos rfl, inV_strs]
        by_cases hin : nm ∈ writ rs
        · rw [decide_eq_true hin]
          refine iteF ⟨fun _ _ e _ => e, ?_⟩
          unfold addW
          rw [if_pos hin]
          exact hb8
        · rw [decide_eq_false hin]
          refine iteT ?_
          refine ⟨.inl ⟨rfl, _, SqL.of hb8⟩, pb, _, _, rfl, rfl, hb8, by rw [List.length_map, sizeLine_eq]; omega, fun a o e na => by rw [upd_ne na]; exact e, ?_⟩
          unfold addW
          rw [if_neg hin, upd_same, List.map_append]
          rfl
      rintro σ' G9 ⟨rfl, bG9, hb9⟩
      have sG9 : Same H4' G9 := fun a o e => bG9 _ _ (sG8 _ _ e) (ne_of_none e npb4)
      have hr9 := bG9 _ _ hr8 nrb
      have hc9 := bG9 _ _ hc8 nbc.symm
      have htw9 : Two (IsRT G9) ws rs := htw8.mono fun _ _ p => p.mono (T := fun _ => False) (imm_but hb8 bG9)
      walk_at "rd"
      refine ⟨line_ge (by decide), fun p8 n8 => ?_⟩
      have g1 := Same.new (o := .lst [.int 3, .int 3, .int 1]) n8
      refine ⟨_, .inl (SqL.of (g1 _ _ (sG9 _ _ hfree'))), ?_⟩
      rw [List.length_map]
      obtain ⟨m1, hm1, hm1p⟩ : ∃ m1 : Int, atI [V.int 3, V.int 3, V.int 1] (((fr'.length : Nat) : Int) - 1) = some (.int m1) ∧ m1 = if fr'.length = 3 then 1 else 3 := by
        rcases (show fr'.length = 1 ∨ fr'.length = 2 ∨ fr'.length = 3 by omega) with e | e | e <;> rw [e]
        · exact ⟨3, rfl, rfl⟩
        · exact ⟨3, rfl, rfl⟩
        · exact ⟨1, rfl, rfl⟩
      refine ⟨p8, _, _, _, rfl, rfl, SqL.of upd_same, hm1, line_ge (by decide), fun p9 n9 => ?_⟩
      have g2 := g1.trans (Same.new (o := .lst [.int m1, .int 9]) n9)
      have hm13 : 1 ≤ m1 ∧ m1 ≤ 3 := by rw [hm1p]; split <;> omega
      refine ⟨p9, _, _, _, rfl, rfl, SqL.of upd_same, (show atI [V.int m1, V.int 9] (if false = true then 1 else 0) = some (.int m1) from rfl), _, rfl, by omega, ?_⟩
      have hmo0 := Int.emod_nonneg (mix / 216) (show m1 ≠ 0 by omega)
      have hmo1 := Int.emod_lt_of_pos (mix / 216) (show 0 < m1 by omega)
      generalize hmo : 1 + mix / 216 % m1 = mo
      have e48 : cutV (ns.map V.str) (some 4) (some 8) = ((ns.drop 4).take 4).map V.str := by
        rw [show (4 : Int) = ((4 : Nat) : Int) from rfl, show (8 : Int) = ((4 + 4 : Nat) : Int) from rfl, cutV_of (by rw [List.length_map, hns9]; omega), ← List.map_drop, ← List.map_take]
      refine ⟨pN, _, rfl, SqL.of (g2 _ _ (sG9 _ _ hnms')), fun p10 n10 => ?_⟩
      rw [e48]
      have g3 := g2.trans (Same.new (o := .lst (((ns.drop 4).take 4).map V.str)) n10)
      refine ⟨p2', p10, _, _, rfl, rfl, g3 _ _ (sG9 _ _ hins'), upd_same, line_ge (by rw [List.length_map, List.length_map, List.length_take]; omega), fun p11 n11 => ?_⟩
      rw [← List.map_append]
      have g4 := g3.trans (Same.new (o := .lst ((ins ++ (ns.drop 4).take 4).map V.str)) n11)
      obtain ⟨w5, hw5, hw5l⟩ : ∃ w5 : Int, 1 + mix / 24 % 5 = w5 ∧ 1 ≤ w5 ∧ w5 ≤ 5 := ⟨_, rfl, by omega, by omega⟩
      refine ⟨mix, _, p11, ins ++ (ns.drop 4).take 4, rfl, by omega, by omega, upd_same, fun z => ?_, fun x hx => ?_, ?_⟩
      · have := congrArg List.length z
        rw [List.length_append, List.length_take, List.length_drop] at this
        simp at this
        omega
      · rcases List.mem_append.mp hx with hx | hx
        · exact iok x hx
        · exact hN.ok x (List.mem_of_mem_drop (List.mem_of_mem_take hx))
      intro G5 tv0 cd0 s5 pt0 cok0 csz0 cdp0
      refine ⟨fun σ' H' => ∃ (tv : V) (cd : Cond), σ' = [some (.ref a), some (.int b), some (.bl false), some (.ref pN), some (.int hd), some (.int one), some (.int two), some (.int three), some (.ref p2'), some (.ref p4'), some (.bl gb), some (.ref pr), some (.ref pb), some (.ref pc), some (.int (0 + (i : Int))), some (.int mix), some (.str nm), some (.int nt), some (.str kk.kind), some (.int mo), some tv, none, none] ∧ Same G5 H' ∧ IsT H' tv cd ∧ cd.ok = true ∧ cd.size ≤ 60 ∧ cd.depth ≤ 20, ?_, ?_⟩
      · walk_at "rd"
        have base : Same G5 G5 ∧ ∃ cd, IsT G5 tv0 cd ∧ cd.ok = true ∧ cd.size ≤ 60 ∧ cd.depth ≤ 20 := ⟨Same.refl _, cd0, pt0, cok0, by omega, by omega⟩
        refine ite2 (fun hg1 => ?_) (fun _ => base)
        refine ite2 (fun _ => ?_) (fun _ => base)
        have hine := hgi hg1
        have hg45 := g4.trans s5
        have hi5 := hg45 _ _ (sG9 _ _ hins')
        obtain ⟨i0, la, hla⟩ : ∃ i0 la, ins = i0 ++ [la] := by
          rcases List.eq_nil_or_concat ins with e | ⟨i0, la, e⟩
          · exact absurd e hine
          · exact ⟨i0, la, by rw [e, List.concat_eq_append]⟩
        have hlm : la ∈ ins := by rw [hla]; simp
        have hipos : (0 : Int) < ((ins.map V.str).length : Int) := by rw [List.length_map, hla]; simp
        obtain ⟨y2, hy2, hya2⟩ := atI_ex (xs := ins.map V.str) (i := mix / 1000 % ((ins.map V.str).length : Int)) (Int.emod_nonneg _ (by omega)) (Int.emod_lt_of_pos _ hipos)
        obtain ⟨l2', hl2, rfl⟩ := List.mem_map.mp hy2
        have hat1 : atI (ins.map V.str) (-1) = some (.str la) := by
          rw [hla, List.map_append]
          exact atI_last _ _
        refine ⟨1, rfl, ?_⟩
        refine ⟨p2', _, -1, .str la, rfl, rfl, SqL.of hi5, hat1, line_ge (by decide), fun q1 nq1 => ?_⟩
        have x1 := Same.new (o := .tup [.str "contact", .str la]) nq1
        refine ⟨_, .inl (SqL.of (x1 _ _ hi5)), hipos, p2', _, _, .str l2', rfl, rfl, SqL.of (x1 _ _ hi5), hya2, line_ge (by decide), fun q2 nq2 => ⟨line_ge (by decide), fun q3 nq3 => ?_⟩⟩
        have x2 := Same.new (o := .tup [.str "contact", .str l2']) nq2
        have x3 := Same.new (o := .tup [.str "and", .ref q1, .ref q2]) nq3
        refine ⟨(x1.trans x2).trans x3, .grp true [.contact la, .contact l2'], .grp upd_same (.cons (.contact ((x2.trans x3) _ _ upd_same)) (.cons (.contact (x3 _ _ upd_same)) .nil)), ?_, by simp [Cond.size, Cond.sizes], by simp [Cond.depth, Cond.depths]⟩
        have n1 := iok la hlm
        have n2 := iok l2' hl2
        simp [Cond.ok, Cond.oks, n1, n2]
      rintro σ' G5' ⟨tv, cd, rfl, s55, pt, cok, csz, cdp⟩
      walk_at "rd"
      have g45 := (g4.trans s5).trans s55
      refine ⟨.inl ⟨rfl, _, SqL.of (g45 _ _ hr9)⟩, line_ge (by decide), fun p12 n12 => ⟨line_ge (by decide), fun p13 n13 => ?_⟩⟩
      have g5 := g45.trans (Same.new (o := .tup [.str kk.kind, .str nm, .int mo]) n12)
      have g6 := Same.new (o := .tup [tv, .ref p12]) n13
      have g56 := g5.trans g6
      have ht12 := g6 _ _ (upd_same (H := G5') (a := p12) (o := .tup [.str kk.kind, .str nm, .int mo]))
      have pt6 : IsT (upd (upd G5' p12 (.tup [.str kk.kind, .str nm, .int mo])) p13 (.tup [tv, .ref p12])) tv cd := pt.mono (T := fun _ => False) (Same.imm ((Same.new (o := .tup [.str kk.kind, .str nm, .int mo]) n12).trans g6))
      have ht13 := upd_same (H := upd G5' p12 (.tup [.str kk.kind, .str nm, .int mo])) (a := p13) (o := .tup [tv, .ref p12])
      generalize upd (upd G5' p12 (.tup [.str kk.kind, .str nm, .int mo])) p13 (.tup [tv, .ref p12]) = G6 at g6 g56 ht12 ht13 pt6 ⊢
      have hr6' := g56 _ _ hr9
      have hwl := htw.length
      have im : Imm (fun _ => False) G6 (upd G6 pr (.lst (ws ++ [.ref p13]))) := Imm.mut hr6' id
      have hrg : Rg.ok ⟨cd, ⟨kk, nm, mo⟩⟩ := ⟨cok, csz, cdp, fok nm hnmf, by show 1 ≤ mo; omega, by show mo ≤ 9; omega⟩
      refine ⟨pr, _, _, rfl, rfl, hr6', by rw [sizeLine_eq]; omega, _, _, _, _, _, _, _, ⟨rfl, rfl, rfl, rfl, rfl, rfl, rfl⟩, Same.mut (sG9.trans g56) npr, _, upd_same, rs ++ [⟨cd, ⟨kk, nm, mo⟩⟩], ?_, bn', ?_, ?_, by rw [List.length_append, hrl]; rfl, ?_, fun r hr' => ?_, fun r hr' => ?_, fun r hr' => ?_, ?_⟩
      · rw [upd_ne nrb.symm, writ_snoc]
        exact g56 _ _ hb9
      · rw [upd_ne nrc.symm]
        exact g56 _ _ hc9
      · refine ((two_rt g56 htw9).mono fun _ _ p => p.mono im).app (.one ⟨p13, p12, tv, rfl, im _ _ ht13 trivial, im _ _ ht12 trivial, pt6.mono im⟩)
      · rcases hcase with ⟨e, _⟩ | ⟨e, _⟩ <;> rw [e]
        · omega
        · rw [List.length_append]
          simp
          omega
      · rcases List.mem_append.mp hr' with hr' | hr'
        · exact hok r hr'
        · rw [List.mem_singleton.mp hr']
          exact hrg
      · rcases List.mem_append.mp hr' with hr' | hr'
        · exact hnm r hr'
        · rw [List.mem_singleton.mp hr']
          exact hnmf
      · rcases List.mem_append.mp hr' with hr' | hr'
        · exact hmb r hr'
        · rw [List.mem_singleton.mp hr', ← hm1p]
          show mo ≤ m1
          omega
      · rcases hcase with ⟨e, h | h⟩ | ⟨e, h1, h2, h3⟩
        · rw [e]
          exact hfit.plain (by show NAT nm ≤ 1; rw [hnatE]; exact h.1) h.2
        · rw [e]
          exact hfit.un h
        · rw [e]
          exact hfit.count (by show 1 < NAT nm; rw [hnatE]; exact h1) h2 h3
    rintro σ G ⟨v13, v14, v15, v16, v17, v18, v19, ws, rs, bn, rfl, sG, hrG, hbG, hcG, htw, hrl, hbl, hok, hnm, hmb, hfit⟩
    walk_at "rd"
    have hne : rs ≠ [] := List.ne_nil_of_length_pos (by omega)
    have hwp := writ_pos hne
    have hwl := writ_len rs
    refine ⟨_, .inl (SqL.of hbG), by rw [List.length_map]; omega, ?_⟩
    rw [List.length_map]
    obtain ⟨g, hg, hgl⟩ : ∃ g : Nat, three / 32 % ((writ rs).length : Int) = (g : Int) ∧ g < (writ rs).length := by
      have b0 := Int.emod_nonneg (three / 32) (show ((writ rs).length : Int) ≠ 0 by omega)
      have b1 := Int.emod_lt_of_pos (three / 32) (show (0 : Int) < ((writ rs).length : Int) by omega)
      exact ⟨(three / 32 % ((writ rs).length : Int)).toNat, by omega, by omega⟩
    rw [hg]
    refine ⟨pb, _, rfl, SqL.of hbG, fun l1 nl1 => ⟨pb, _, rfl, SqL.of (Same.new nl1 _ _ hbG), fun l2 nl2 => ?_⟩⟩
    rw [cutV_from, ← List.map_drop] at nl2
    rw [cutV_from, cutV_to, ← List.map_drop, ← List.map_take]
    have v1 := Same.new (o := .lst (((writ rs).drop g).map V.str)) nl1
    have v2 := v1.trans (Same.new (o := .lst (((writ rs).take g).map V.str)) nl2)
    refine ⟨l1, l2, _, _, rfl, rfl, Same.new nl2 _ _ upd_same, upd_same, line_ge (by rw [List.length_map, List.length_map, List.length_drop, List.length_take]; omega), fun l3 nl3 => ?_⟩
    rw [← List.map_append] at *
    have v3 := v2.trans (Same.new (o := .lst (((writ rs).drop g ++ (writ rs).take g).map V.str)) nl3)
    refine ⟨_, .inl (SqL.of (v3 _ _ hbG)), by rw [List.length_map]; omega, ?_⟩
    rw [List.length_map]
    refine ⟨l3, _, rfl, SqL.of upd_same, fun l4 nl4 => ?_⟩
    obtain ⟨qo, hqo, hqo1, hqo6⟩ : ∃ qo : Nat, 1 + two / 16 % ((writ rs).length : Int) = (qo : Int) ∧ 1 ≤ qo ∧ qo ≤ 6 := by
      have b0 := Int.emod_nonneg (two / 16) (show ((writ rs).length : Int) ≠ 0 by omega)
      have b1 := Int.emod_lt_of_pos (two / 16) (show (0 : Int) < ((writ rs).length : Int) by omega)
      exact ⟨(1 + two / 16 % ((writ rs).length : Int)).toNat, by omega, by omega, by omega⟩
    rw [hqo, cutV_to, ← List.map_take]
    have v4 := v3.trans (Same.new (o := .lst ((((writ rs).drop g ++ (writ rs).take g).take qo).map V.str)) nl4)
    refine ⟨_, .inl ⟨SqL.of (v4 _ _ (sG _ _ hins')), fun l5 nl5 => ⟨l4, rfl, _, .inl ⟨SqL.of (Same.new nl5 _ _ upd_same), fun l6 nl6 => ⟨line_ge (by decide), fun l7 nl7 => ?_⟩⟩⟩⟩⟩
    have w6 := Same.new (o := .tup ((((writ rs).drop g ++ (writ rs).take g).take qo).map V.str)) nl6
    have w7 := Same.new (o := .tup [.ref l5, .ref l6, .ref pr]) nl7
    have w5 := (Same.new (o := .tup ((ins).map V.str)) nl5).trans (w6.trans w7)
    have v6 := v4.trans w5
    have hmem : ∀ x ∈ ((writ rs).drop g ++ (writ rs).take g).take qo, x ∈ writ rs := fun x hx => by
      rcases List.mem_append.mp (List.mem_of_mem_take hx) with h | h
      · exact List.mem_of_mem_drop h
      · exact List.mem_of_mem_take h
    have hwm : ∀ x ∈ writ rs, x ∈ fr' := fun x hx => by
      obtain ⟨r, hr', rfl⟩ := (writ_mem _).mp hx
      exact hnm r hr'
    have hnd : ((writ rs).drop g ++ (writ rs).take g).Nodup := by
      have e := writ_nodup rs
      rw [← List.take_append_drop g (writ rs)] at e
      exact (List.perm_append_comm.nodup_iff).mp e
    refine k _ l7 l5 l6 pr ws ⟨ins, ((writ rs).drop g ++ (writ rs).take g).take qo, rs⟩ ((s4'.trans sG).trans v6) ⟨upd_same, (w6.trans w7) _ _ upd_same, w7 _ _ upd_same, v6 _ _ hrG, two_rt v6 htw⟩ ⟨hok, iok, (fair_iff _).mpr ⟨il, ind, ?_, ?_, ⟨?_, ?_⟩, fun x hx hw => fni x (hwm x hw) hx, hmem, hfit.crowd, ?_⟩⟩ ⟨fr', fnd, fl3, hnm, hmb⟩
    · show 1 ≤ (((writ rs).drop g ++ (writ rs).take g).take qo).length ∧ (((writ rs).drop g ++ (writ rs).take g).take qo).length ≤ 6
      rw [List.length_take, List.length_append, List.length_drop, List.length_take]
      omega
    · exact hnd.sublist (List.take_sublist _ _)
    · show 1 ≤ rs.length
      omega
    · show rs.length ≤ 30
      omega
    · show (writ rs).length ≤ 20
      omega
end

--%% NG
/-! ## a ladder of a model: made -/
abbrev s__law_end : Stmt := top 73
theorem sc__law_end : FnScope ["_law_end_here", "_law_kind", "_law_name", "_law_greatest"] ["_law_end_here"] (defScope s__law_end) := ⟨rfl, rfl, rfl, by decide +kernel, rfl, by decide +kernel, by decide +kernel⟩
abbrev s__law_made : Stmt := top 80
theorem sc__law_made : FnScope ["_law_model", "_law_inputs", "_law_outputs", "_law_rungs", "_law_tree_here", "_law_end_here"] ["_law_model"] (defScope s__law_made) := ⟨rfl, rfl, rfl, by decide +kernel, rfl, by decide +kernel, by decide +kernel⟩
section
variable {P : Program} {w : World} {K : PySem.W.Frag} {mg : Str → Option Value} {base : Heap} {cs : Cs} {cc : Addr} {xc : Xc}
/-- what making asks, where nothing is refused -/
theorem mk_enC {ce : Ce} {H : Hp} {x dx : Addr} {k : Ek} {n : Str} {m : Int} {Q : VK} (nx : H x = none) (nd : H dx = none) (hk : k.counts = false) (hn : isName n = true) (q : ∀ H' : Hp, Same H H' → IsE ce H' (.ref x) ⟨k, n, m⟩ → Q .non H') :
    spInitEn ce xc (.ref x :: ([.str n] ++ [])) (upd (upd H dx (.own x)) x (.ins (ce.at k) dx [])) Q E0 :=
  ⟨x, dx, k, n, rfl, upd_same, line_ge (by have := isName_len' hn; omega), fun _ H' h1 h2 => q H' (fun c o e => h2 c o (same_mkE nx nd c o e) (ne_of_none e nx)) ⟨x, dx, rfl, by unfold EndC.fs; rw [hk]; exact h1⟩, fun h => by rw [hn] at h; cases h⟩
theorem mk_coC {ce : Ce} {H : Hp} {x dx : Addr} {k : Ek} {n : Str} {m : Int} {Q : VK} (nx : H x = none) (nd : H dx = none) (hk : k.counts = true) (hn : isName n = true) (m1 : 1 ≤ m) (m9 : m ≤ 9) (q : ∀ H' : Hp, Same H H' → IsE ce H' (.ref x) ⟨k, n, m⟩ → Q .non H') :
    spInitCo ce xc (.ref x :: ([.str n, .int m] ++ [])) (upd (upd H dx (.own x)) x (.ins (ce.at k) dx [])) Q E0 :=
  ⟨x, dx, k, n, m, rfl, upd_same, hk, line_ge (by have := isName_len' hn; omega), fun _ _ _ H' h1 h2 => q H' (fun c o e => h2 c o (same_mkE nx nd c o e) (ne_of_none e nx)) ⟨x, dx, rfl, by unfold EndC.fs; rw [hk]; exact h1⟩, fun h => (by rw [hn] at h; cases h), fun _ z => absurd ⟨m1, m9⟩ z⟩
theorem mk_rgC {H : Hp} {x dx : Addr} {p q : V} {Q : VK} {E : XK} (nx : H x = none) (nd : H dx = none) (k : ∀ H' : Hp, Same H H' → H' x = some (.ins cs.rg dx [("part", p), ("end", q)]) → Q .non H') :
    spInitRg cs (.ref x :: ([p, q] ++ [])) (upd (upd H dx (.own x)) x (.ins cs.rg dx [])) Q E :=
  ⟨x, dx, p, q, rfl, upd_same, fun H' h1 h2 => k H' (fun c o e => h2 c o (same_mkE nx nd c o e) (ne_of_none e nx)) h1⟩
theorem lad_good {l : Lad} (h1 : l.fair = true) (h2 : l.named = true) : l.bad = none := by
  unfold Lad.bad
  rw [if_pos h2, if_pos h1]
theorem mk_ldC {H : Hp} {x dx i o r : Addr} {ws : List V} {l : Lad} {Q : VK} (nx : H x = none) (nd : H dx = none) (hi : Sq2 K H i (l.ins.map V.str)) (ho : Sq2 K H o (l.outs.map V.str)) (hr : Sq2 K H r ws) (ht : Two (IsR cs H) ws l.rs) (hf : l.fair = true) (hn : l.named = true)
    (k : ∀ H' : Hp, Same H H' → IsL K cs H' (.ref x) l → Q .non H') :
    spInitLd K cs xc (.ref x :: ([.ref i, .ref o, .ref r] ++ [])) (upd (upd H dx (.own x)) x (.ins cs.ld dx [])) Q E0 := by
  obtain ⟨f1, f2, f3, f4, f5, f6, f7, f8, f9⟩ := (fair_iff l).mp hf
  refine ⟨H, x, dx, i, o, r, ws, l, rfl, upd_same, same_mkE nx nd, nx, hi, ho, hr, ht, by omega, by omega, by omega, fun n h => ?_, fun _ H' s p => k H' s p, fun b h => ?_⟩
  · have := isName_len' (List.all_eq_true.mp hn n h)
    omega
  · rw [lad_good hf hn] at h
    cases h
end

structure TLMade (K : PySem.W.Frag) (mg : Str → Option Value) (cs : Cs) (cc : Addr) (xc : Xc) : Prop where
  lad : TLad K mg cs cc xc
  pof : TPartOf K mg cs.cl
  d_end : DefAt K mg "_law_end" s__law_end ["_law_end_here"]
  d_made : DefAt K mg "_law_made" s__law_made ["_law_model"]
section
variable {P : Program} {w : World} {K : PySem.W.Frag} {mg : Str → Option Value} {base : Heap} {cs : Cs} {cc : Addr} {xc : Xc}
def spEnd (cs : Cs) : Sp := fun vs H Q _ => ∃ (t : Addr) (e : EndC), vs = [.ref t] ∧ H t = some (.tup [.str e.k.kind, .str e.n, .int e.m]) ∧ isName e.n = true ∧ 1 ≤ e.m ∧ e.m ≤ 9 ∧ ∀ (H' : Hp) (x : Addr), Same H H' → IsE cs.ce H' (.ref x) e → Q (.ref x) H'
theorem ok_end (T : TLMade K mg cs cc xc) : FnAt P w K mg base CX0 "_law_end" 6 ["_law_end_here"] (spEnd cs) := by
  have TE := T.lad.enk.ends
  have X := T.lad.exs
  have M_Coil := (init_en (P := P) (w := w) (base := base) TE X .coil TE.c_Coil TE.m_init_coil).calm
  have M_Latch := (init_en (P := P) (w := w) (base := base) TE X .latch TE.c_Latch TE.m_init_latch).calm
  have M_Unlatch := (init_en (P := P) (w := w) (base := base) TE X .unlatch TE.c_Unlatch TE.m_init_unlatch).calm
  have M_Timer := (init_co (P := P) (w := w) (base := base) TE X .timer TE.c_Timer TE.m_init_timer).calm
  have M_Counter := (init_co (P := P) (w := w) (base := base) TE X .counter TE.c_Counter TE.m_init_counter).calm
  refine fnAt_ok T.d_end sc__law_end (fun vs H Q E h => ?_) (fun f cdv A outer s H vs Q E hr h => ?_)
  · obtain ⟨t, e, rfl, _⟩ := h; rfl
  · obtain ⟨t, e, rfl, ht, hn, h1, h9, k⟩ := h
    refine ⟨_, (pss_cons (ps_asg (pv 0) (pg_tup rfl (pgs_cons (pg_name (i := 1) sc__law_end.nd rfl (by first | exact Or.inl rfl | exact Or.inr rfl)) (pgs_cons (pg_name (i := 2) sc__law_end.nd rfl (by first | exact Or.inl rfl | exact Or.inr rfl)) (pgs_cons (pg_name (i := 3) sc__law_end.nd rfl (by first | exact Or.inl rfl | exact Or.inr rfl)) pgs_nil)))))
        (pss_cons (ps_if (pt_cmpR op_eq (pv 1) pe_str (nomark _)) (pss_one (ps_ret (pe_makeF M_Coil hr pass0 (pa_cons (pv 2) pa_nil)))) pss_nil)
        (pss_cons (ps_if (pt_cmpR op_eq (pv 1) pe_str (nomark _)) (pss_one (ps_ret (pe_makeF M_Latch hr pass0 (pa_cons (pv 2) pa_nil)))) pss_nil)
        (pss_cons (ps_if (pt_cmpR op_eq (pv 1) pe_str (nomark _)) (pss_one (ps_ret (pe_makeF M_Unlatch hr pass0 (pa_cons (pv 2) pa_nil)))) pss_nil)
        (pss_cons (ps_if (pt_cmpR op_eq (pv 1) pe_str (nomark _)) (pss_one (ps_ret (pe_makeF M_Timer hr pass0 (pa_cons (pv 2) (pa_cons (pv 3) pa_nil))))) pss_nil)
        (pss_one (ps_ret (pe_makeF M_Counter hr pass0 (pa_cons (pv 2) (pa_cons (pv 3) pa_nil)))))))))), ?_⟩
    walk_at "rd"
    refine ⟨t, _, rfl, SqT.of ht, rfl, ?_⟩
    walk_at "rd"
    obtain ⟨ek, n, m⟩ := e
    cases ek with
    | coil =>
      refine iteT ⟨_, rfl, fun x dx nx nd _ => mk_enC (k := .coil) (m := m) nx nd rfl hn fun H1 s1 p1 => ⟨rfl, k H1 x s1 p1⟩⟩
    | latch =>
      refine iteF (iteT ⟨_, rfl, fun x dx nx nd _ => mk_enC (k := .latch) (m := m) nx nd rfl hn fun H1 s1 p1 => ⟨rfl, k H1 x s1 p1⟩⟩)
    | unlatch =>
      refine iteF (iteF (iteT ⟨_, rfl, fun x dx nx nd _ => mk_enC (k := .unlatch) (m := m) nx nd rfl hn fun H1 s1 p1 => ⟨rfl, k H1 x s1 p1⟩⟩))
    | timer =>
      refine iteF (iteF (iteF (iteT ⟨_, rfl, _, rfl, fun x dx nx nd _ => mk_coC (k := .timer) nx nd rfl hn h1 h9 fun H1 s1 p1 => ⟨rfl, k H1 x s1 p1⟩⟩)))
    | counter =>
      refine iteF (iteF (iteF (iteF ⟨_, rfl, _, rfl, fun x dx nx nd _ => mk_coC (k := .counter) nx nd rfl hn h1 h9 fun H1 s1 p1 => ⟨rfl, k H1 x s1 p1⟩⟩)))
def spMadeL (K : PySem.W.Frag) (cs : Cs) : Sp := fun vs H Q _ => ∃ (t ti to p : Addr) (ws : List V) (l : Lad), vs = [.ref t] ∧ IsM H t ti to p ws l ∧ l.good ∧ ∀ (H' : Hp) (x : Addr), Same H H' → IsL K cs H' (.ref x) l → Q (.ref x) H'
theorem ok_madeL (T : TLMade K mg cs cc xc) : FnAt P w K mg base CX0 "_law_made" 28 ["_law_model"] (spMadeL K cs) := by
  have G__law_end := ok_end (P := P) (w := w) (base := base) T
  have M_Ladder := (ok_init_ld (P := P) (w := w) (base := base) T.lad).calm
  have M_Rung := ok_init_rg (P := P) (w := w) (base := base) T.lad
  have G_part_of : FnAt P w K mg base CX0 "part_of" 26 _ (spPartOf cs.cl) := ok_part_of T.pof
  refine fnAt_ok T.d_made sc__law_made (fun vs H Q E h => ?_) (fun f cdv A outer s H vs Q E hr h => ?_)
  · obtain ⟨t, ti, to, p, ws, l, rfl, _⟩ := h; rfl
  · obtain ⟨t, ti, to, p, ws, l, rfl, hM, hg, k⟩ := h
    have hu := hu_of hr
    refine ⟨_, (pss_cons (ps_asg (pv 0) (pg_tup rfl (pgs_cons (pg_name (i := 1) sc__law_made.nd rfl (by first | exact Or.inl rfl | exact Or.inr rfl)) (pgs_cons (pg_name (i := 2) sc__law_made.nd rfl (by first | exact Or.inl rfl | exact Or.inr rfl)) (pgs_cons (pg_name (i := 3) sc__law_made.nd rfl (by first | exact Or.inl rfl | exact Or.inr rfl)) pgs_nil)))))
        (pss_one (ps_ret (pe_makeF M_Ladder hr pass0 (pa_cons (pv 1) (pa_cons (pv 2) (pa_cons (pe_lc (own := [("_law_tree_here", 4), ("_law_end_here", 5)]) (g := gTup K 2 (gCons (gName 4) (gCons (gName 5) gNil))) (tt := tYes) rfl sc__law_made.nd (pi_list (pv 3)) (blkOk_by (own := [("_law_tree_here", 4), ("_law_end_here", 5)]) (N := ["_law_model", "_law_inputs", "_law_outputs", "_law_rungs", "_law_tree_here", "_law_end_here"]) (sc := defScope s__law_made) (by decide +kernel)) (fun _ _ _ _ _ => (pg_tup rfl (pgs_cons (pg_name (i := 4) sc__law_made.nd rfl (Or.inl rfl)) (pgs_cons (pg_name (i := 5) sc__law_made.nd rfl (Or.inl rfl)) pgs_nil)))) (fun _ _ _ _ _ => pts_nil) (fun _ _ _ _ _ => (pe_makeF M_Rung hr pass0 (pa_cons (pe_callF G_part_of hr pass0 (pa_cons (pv 4) pa_nil)) (pa_cons (pe_callF G__law_end hr pass0 (pa_cons (pv 5) pa_nil)) pa_nil))))) pa_nil))))))), ?_⟩
    walk_at "rd"
    refine ⟨t, _, rfl, SqT.of hM.at_, rfl, ?_⟩
    walk_at "rd"
    obtain ⟨f1, f2, f3, f4, f5, f6, f7, f8, f9⟩ := (fair_iff l).mp hg.fair
    have hlen := hM.two.length
    have hnamed : l.named = true := List.all_eq_true.mpr fun n hn => by
      rcases List.mem_append.mp hn with hn | hn
      · exact hg.nm n hn
      · obtain ⟨r, hr', rfl⟩ := (writ_mem _).mp (f7 n hn)
        exact (hg.ok r hr').2.2.2.1
    refine ⟨_, rfl, _, rfl, _, rfl, p, rfl, ⟨_, SqL.of hM.hp⟩, fun D nD => lc_list (K := K) (a := p) (xs := ws) (fun i H' => Same H H' ∧ ∃ us, H' D = some (.lst us) ∧ Two (IsR cs H') us (l.rs.take i)) ⟨Same.new nD, [], upd_same, .nil⟩ (fun i H' _ q => SqL.of (q.1 _ _ hM.hp)) ?_ ?_⟩
    · rintro i y H1 hy ⟨s1, us, hD, htw⟩
      obtain ⟨r, hr', tp, te, xc', rfl, htp, hte, hxc⟩ := hM.two.at hy
      have hrm := List.mem_of_getElem? hr'
      obtain ⟨o1, o2, o3, o4, o5, o6⟩ := hg.ok r hrm
      have hul := htw.length
      rw [List.length_take] at hul
      refine ⟨tp, _, rfl, SqT.of (s1 _ _ htp), rfl, ?_⟩
      walk_at "rd"
      unfold tYes
      refine iteT ⟨_, rfl, xc', r.c, rfl, hxc.mono (T := fun _ => False) (Same.imm s1), o1, o2, o3, fun H2 xp s2 pp => ⟨_, rfl, te, r.e, rfl, (s1.trans s2) _ _ hte, o4, o5, o6, fun H3 xe s3 pe => fun xr dxr nxr ndr _ => mk_rgC nxr ndr fun H4 s4 hxr => ⟨rfl, ?_⟩⟩⟩
      have s24 := (s2.trans s3).trans s4
      have hD4 := s24 _ _ hD
      have im : Imm cs.has H4 (upd H4 D (.lst (us ++ [.ref xr]))) := Imm.mut hD4 id
      have imc : Imm cs.cl.has H4 (upd H4 D (.lst (us ++ [.ref xr]))) := Imm.mut hD4 id
      have ime : Imm cs.ce.has H4 (upd H4 D (.lst (us ++ [.ref xr]))) := Imm.mut hD4 id
      have nxD : xr ≠ D := fun e => by rw [e, hD4] at hxr; cases hxr
      refine ⟨us, hD4, by rw [sizeLine_eq]; omega, Same.mut (s1.trans s24) nD, _, upd_same, ?_⟩
      rw [List.take_succ, hr']
      refine (htw.mono fun _ _ z => (z.mono (Same.imm s24)).mono im).app (.one ⟨xr, dxr, _, _, rfl, by rw [upd_ne nxD]; exact hxr, (pp.mono (Same.imm (s3.trans s4))).mono imc, (pe.mono (Same.imm s4)).mono ime⟩)
    · rintro H1 ⟨s1, us, hD, htw⟩
      rw [hlen, List.take_length] at htw
      intro x dx nx nd _
      refine mk_ldC nx nd (.inr (Or.inl (s1 _ _ hM.hi))) (.inr (Or.inl (s1 _ _ hM.ho))) (.inl hD) htw hg.fair hnamed fun H2 s2 p2 => ⟨rfl, k H2 x (s1.trans s2) p2⟩
end

--%% NH
/-! ## works: its image, its answers -/
abbrev s_Works_image : Stmt := inClass (top 27) 7
theorem sc_Works_image : FnScope ["self"] ["self"] (defScope s_Works_image) := ⟨rfl, rfl, rfl, by decide +kernel, rfl, by decide +kernel, by decide +kernel⟩
abbrev s_Works_answers : Stmt := inClass (top 27) 6
theorem sc_Works_answers : FnScope ["self", "name"] ["self"] (defScope s_Works_answers) := ⟨rfl, rfl, rfl, by decide +kernel, rfl, by decide +kernel, by decide +kernel⟩
/-- a field in a comprehension's element -/
theorem pe_fldK {X : Cx} {e : Expr} {f : Str} {pos : Pos} {ta : TE} (K : PySem.W.Frag) (h : X.K = K) (he : PE X e ta) (hb : attributeBase e f X.env (eval e X.env) = eval e X.env) : PE X (.Attribute e f pos) (tFld K ta f) := h ▸ pe_fld he hb
structure TAsk2 (K : PySem.W.Frag) (mg : Str → Option Value) (cs : Cs) (cc : Addr) (xc : Xc) (cw : Addr) : Prop where
  wk : TWorks K mg cs cc xc cw
  m_image : MethAt K cw "image" "Works.image" s_Works_image ["self"]
  m_answers : MethAt K cw "answers" "Works.answers" s_Works_answers ["self"]
  z_dict : mg "dict" = none
  z_tuple : mg "tuple" = none
section
variable {P : Program} {w : World} {K : PySem.W.Frag} {mg : Str → Option Value} {base : Heap} {cs : Cs} {cc : Addr} {xc : Xc} {cw : Addr}
def spImage (cw : Addr) : Sp := fun vs H Q _ => ∃ (x dx b c s : Addr) (lv : V) (u : Ws), vs = [.ref x] ∧ H x = some (.ins cw dx (wkF lv b c s)) ∧ Tri H b c s u ∧ ∀ (H' : Hp) (d : Addr), Same H H' → H d = none → H' d = some (.dK (dL V.bl u.bits)) → Q (.ref d) H'
theorem disp_image (T : TAsk2 K mg cs cc xc cw) : DispAt P w K mg base CX0 (fun C => C = cw) "image" 1 ["self"] (fun _ vs H Q _ => spImage cw vs H Q E0) := by
  refine ⟨fun C hC => ?_⟩
  subst hC
  refine methAt_ok T.wk.c_Works.cl T.m_image sc_Works_image (fun vs H Q E h => ?_) (fun f cdv A outer st H vs Q E hr h => ?_)
  · obtain ⟨x, dx, b, c, s, lv, u, rfl, _⟩ := h; rfl
  · obtain ⟨x, dx, b, c, s, lv, u, rfl, hx, ht, k⟩ := h
    have hu := hu_of hr
    refine ⟨_, (pss_one (ps_ret (pe_callTy call_dictD (by rfl) T.z_dict (show PySem.bootBuiltins "dict" = some (.type "dict") by decide +kernel) (pa_cons (pe_fld (pv 0) rfl) pa_nil)))), ?_⟩
    walk_at "rd"
    exact ⟨_, rfl, x, _, dx, _, _, rfl, hx, T.wk.c_Works.cl, T.wk.nb_wk, lkW2, b, rfl, _, .inl ht.hb, fun p np => k _ p (Same.new np) np upd_same⟩
def spAnswers (K : PySem.W.Frag) (cs : Cs) (cw : Addr) : Sp := fun vs H Q _ => ∃ (x dx b c s : Addr) (lv : V) (u : Ws) (l : Lad), vs = [.ref x] ∧ H x = some (.ins cw dx (wkF lv b c s)) ∧ IsL K cs H lv l ∧ Tri H b c s u ∧ (∀ n ∈ l.outs, n ∈ keysL u.bits) ∧ l.outs.length ≤ 1000 ∧
  ∀ (H' : Hp) (t : Addr), Same H H' → H t = none → H' t = some (.tup ((l.outs.map fun n => (getL u.bits n).getD false).map V.bl)) → Q (.ref t) H'
theorem disp_answers (T : TAsk2 K mg cs cc xc cw) : DispAt P w K mg base CX0 (fun C => C = cw) "answers" 1 ["self"] (fun _ vs H Q _ => spAnswers K cs cw vs H Q E0) := by
  refine ⟨fun C hC => ?_⟩
  subst hC
  refine methAt_ok T.wk.c_Works.cl T.m_answers sc_Works_answers (fun vs H Q E h => ?_) (fun f cdv A outer st H vs Q E hr h => ?_)
  · obtain ⟨x, dx, b, c, s, lv, u, l, rfl, _⟩ := h; rfl
  · obtain ⟨x, dx, b, c, s, lv, u, l, rfl, hx, hl, ht, hk, ho, k⟩ := h
    have hu := hu_of hr
    refine ⟨_, (pss_one (ps_ret (pe_callTy call_tuple_of (by rfl) T.z_tuple (show PySem.bootBuiltins "tuple" = some (.type "tuple") by decide +kernel) (pa_cons (pe_lc (own := [("name", 1)]) (g := gName 1) (tt := tYes) rfl sc_Works_answers.nd (pi_tup (pe_fld (pe_fld (pv 0) rfl) rfl)) (blkOk_by (own := [("name", 1)]) (N := ["self", "name"]) (sc := defScope s_Works_answers) (by decide +kernel)) (fun _ _ _ _ _ => pg_name (i := 1) sc_Works_answers.nd rfl (Or.inl rfl)) (fun _ _ _ _ _ => pts_nil) (fun _ _ _ _ _ => (pe_dget (by exact hu) (pe_fldK K rfl (pv 0) rfl) (pv 1) (fun _ _ => rfl)))) pa_nil)))), ?_⟩
    walk_at "rd"
    obtain ⟨al, dl, ti, tt, tr, ws, rfl, hal, h1, h2, h3, h4⟩ := id hl
    refine ⟨_, rfl, x, _, dx, _, _, rfl, hx, T.wk.c_Works.cl, T.wk.nl_wk, lkW1, al, _, dl, _, _, rfl, hal, T.wk.lad.c_Ladder.cl, T.wk.lad.no_ld, lkL2, tt, rfl, ⟨_, h2.seq⟩, fun D nD => lc_tup (K := K) (a := tt) (xs := l.outs.map V.str) (fun i H' => Same H H' ∧ H' D = some (.lst (((l.outs.map fun n => (getL u.bits n).getD false).map V.bl).take i))) ⟨Same.new nD, upd_same⟩ (fun i H' _ q => Same.seqT q.1 h2.seq) ?_ ?_⟩
    · rintro i y H2 hy ⟨q1, q2⟩
      rw [List.getElem?_map] at hy
      obtain ⟨n, hn, rfl⟩ := Option.map_eq_some_iff.mp hy
      obtain ⟨v, hv⟩ := getL_mem.mpr (hk n (List.mem_of_getElem? hn))
      refine ⟨rfl, _, rfl, x, _, dx, _, _, rfl, q1 _ _ hx, T.wk.c_Works.cl, T.wk.nb_wk, lkW2, _, rfl, b, .bl v, rfl, .inl ⟨_, .inr n, .inl (q1 _ _ ht.hb), rfl, by rw [dL_get, hv]; rfl⟩, ?_⟩
      exact lc_push q1 nD q2 (by rw [List.getElem?_map, List.getElem?_map, hn]; simp [hv]) (by rw [List.length_map, List.length_map]; omega)
    · rintro H2 ⟨q1, q2⟩
      rw [List.length_map, List.take_of_length_le (by simp)] at q2
      exact ⟨D, rfl, _, .inl ⟨SqL.of q2, fun t nt => k _ t (q1.trans (Same.new nt)) (q1.free nt) upd_same⟩⟩
end

/-! ## steps: rows and their numbers -/
abbrev s_rows : Stmt := top 37
theorem sc_rows : FnScope ["ladder"] ["ladder"] (defScope s_rows) := ⟨rfl, rfl, rfl, by decide +kernel, rfl, by decide +kernel, by decide +kernel⟩
abbrev s_row_of : Stmt := top 38
theorem sc_row_of : FnScope ["ladder", "number", "k"] ["ladder", "number"] (defScope s_row_of) := ⟨rfl, rfl, rfl, by decide +kernel, rfl, by decide +kernel, by decide +kernel⟩
abbrev s_row_number : Stmt := top 39
theorem sc_row_number : FnScope ["row", "number", "k", "truth"] ["row"] (defScope s_row_number) := ⟨rfl, rfl, rfl, by decide +kernel, rfl, by decide +kernel, by decide +kernel⟩
structure TSteps (K : PySem.W.Frag) (mg : Str → Option Value) (cs : Cs) (cc : Addr) (xc : Xc) : Prop where
  lad : TLad K mg cs cc xc
  d_rows : DefAt K mg "rows" s_rows ["ladder"]
  d_row_of : DefAt K mg "row_of" s_row_of ["ladder", "number"]
  d_row_number : DefAt K mg "row_number" s_row_number ["row"]
  z_len : mg "len" = none
  z_range : mg "range" = none
  z_tuple : mg "tuple" = none
  z_int : mg "int" = none
  z_enumerate : mg "enumerate" = none
section
variable {P : Program} {w : World} {K : PySem.W.Frag} {mg : Str → Option Value} {base : Heap} {cs : Cs} {cc : Addr} {xc : Xc}
def spRows (K : PySem.W.Frag) (cs : Cs) : Sp := fun vs H Q _ => ∃ (v : V) (l : Lad), vs = [v] ∧ IsL K cs H v l ∧ l.ins.length ≤ 60 ∧ Q (.int ((2 ^ l.ins.length : Nat) : Int)) H
theorem ok_rows (T : TSteps K mg cs cc xc) : FnAt P w K mg base CX0 "rows" 1 ["ladder"] (spRows K cs) := by
  refine fnAt_ok T.d_rows sc_rows (fun vs H Q E h => ?_) (fun f cdv A outer s H vs Q E hr h => ?_)
  · obtain ⟨v, l, rfl, _⟩ := h; rfl
  · obtain ⟨v, l, rfl, p, hl, k⟩ := h
    obtain ⟨a, dx, ti, tt, tr, ws, rfl, ha, h1, h2, h3, h4⟩ := p
    refine ⟨_, (pss_one (ps_ret (pe_op op_shl pe_int (pe_callB call_len_seq (by rfl) T.z_len PySem.boot_len (pa_cons (pe_fld (pv 0) rfl) pa_nil))))), ?_⟩
    walk_at "rd"
    have e : (1 : Int) * 2 ^ (((l.ins.map V.str).length : Nat) : Int).toNat = ((2 ^ l.ins.length : Nat) : Int) := by
      rw [Int.toNat_natCast, List.length_map, Int.one_mul, Int.natCast_pow]
      rfl
    refine ⟨_, rfl, a, _, dx, _, _, rfl, ha, T.lad.c_Ladder.cl, T.lad.ni_ld, lkL1, ti, rfl, _, .inr h1.seq, ⟨by omega, by rw [List.length_map]; omega, by decide⟩, ?_⟩
    rw [e]
    exact k
def bitI (k : Nat) (i : Nat) : Bool := k / 2 ^ i % 2 == 1
def rowT (k n : Nat) : List Bool := (List.range n).map (bitI k)
def numB : List Bool → Nat
  | [] => 0
  | b :: l => (if b then 1 else 0) + 2 * numB l
theorem numB_snoc (b : Bool) : ∀ l : List Bool, numB (l ++ [b]) = numB l + (if b then 1 else 0) * 2 ^ l.length
  | [] => by cases b <;> rfl
  | x :: l => by
    rw [List.cons_append, numB, numB, numB_snoc b l, List.length_cons, Nat.pow_succ, Nat.mul_add, ← Nat.mul_assoc, Nat.mul_comm 2 (if b = true then 1 else 0), Nat.mul_assoc, Nat.mul_comm 2 (2 ^ l.length)]
    omega
theorem numB_lt : ∀ l : List Bool, numB l < 2 ^ l.length
  | [] => by decide
  | x :: l => by
    have := numB_lt l
    rw [numB, List.length_cons, Nat.pow_succ]
    cases x <;> simp <;> omega
theorem rowT_succ (k n : Nat) : rowT k (n + 1) = rowT k n ++ [bitI k n] := by unfold rowT; rw [List.range_succ, List.map_append]; rfl
theorem rowT_len (k n : Nat) : (rowT k n).length = n := by unfold rowT; rw [List.length_map, List.length_range]
theorem bit_dec (n i : Nat) : decide (Builtin.bitAnd ((n : Int) / 2 ^ ((i : Nat) : Int).toNat) 1 = 1) = bitI n i := by
  rw [PyProof.Rows.bitAnd_m1, Int.toNat_natCast, Bool.eq_iff_iff, decide_eq_true_eq]
  unfold bitI
  rw [beq_iff_eq]
  have e : ((n : Int) / 2 ^ i) % 2 = ((n / 2 ^ i % 2 : Nat) : Int) := by
    rw [Int.natCast_emod, Int.natCast_ediv, Int.natCast_pow]
    rfl
  rw [e]
  omega
theorem numB_row (n : Nat) : ∀ k, n < 2 ^ k → numB (rowT n k) = n := by
  have key : ∀ k, numB (rowT n k) = n % 2 ^ k := by
    intro k
    induction k with
    | zero => rw [Nat.pow_zero, Nat.mod_one]; rfl
    | succ k ih =>
      rw [rowT_succ, numB_snoc, ih, rowT_len, Nat.mod_pow_succ]
      unfold bitI
      rcases (show n / 2 ^ k % 2 = 0 ∨ n / 2 ^ k % 2 = 1 by omega) with e | e <;> rw [e] <;> simp
  intro k h
  rw [key, Nat.mod_eq_of_lt h]
def spRowOf (K : PySem.W.Frag) (cs : Cs) (xc : Xc) : Sp := fun vs H Q E => ∃ (v : V) (l : Lad) (k : Int), vs = [v, .int k] ∧ IsL K cs H v l ∧ l.ins.length ≤ 60 ∧
  (∀ n : Nat, k = (n : Int) → n < 2 ^ l.ins.length → ∀ (H' : Hp) (t : Addr), Same H H' → H' t = some (.tup ((rowT n l.ins.length).map V.bl)) → Q (.ref t) H') ∧ (¬ (0 ≤ k ∧ k < ((2 ^ l.ins.length : Nat) : Int)) → E (.ref xc.row) none H)
theorem ok_row_of (T : TSteps K mg cs cc xc) : FnAt P w K mg base (L2.CX P w) "row_of" 2 ["ladder", "number"] (spRowOf K cs xc) := by
  have G_rows : FnAt P w K mg base CX0 "rows" 1 _ (spRows K cs) := ok_rows T
  have e_NoRow := T.lad.exs.e_row
  refine fnAt_okX T.d_row_of sc_row_of (fun vs H Q E h => ?_) (fun f cdv A outer s H vs Q E hr h => ?_)
  · obtain ⟨v, l, k, rfl, _⟩ := h; rfl
  · obtain ⟨v, l, k, rfl, p, hl, q, qx⟩ := h
    refine ⟨_, (pss_cons (ps_if (pt_not (pt_chain op_le op_lt pe_int (pv 1) (pe_callF G_rows hr pass0 (pa_cons (pv 0) pa_nil)))) (pss_one (ps_raiseO rfl e_NoRow (L2.takes_of rfl rfl rfl rfl))) pss_nil)
        (pss_one (ps_ret (pe_callTy call_tuple_of (by rfl) T.z_tuple (show PySem.bootBuiltins "tuple" = some (.type "tuple") by decide +kernel) (pa_cons (pe_lc (own := [("k", 2)]) (g := gName 2) (tt := tYes) rfl sc_row_of.nd (pi_range1 rfl T.z_range (pa_cons (pe_callB call_len_seq (by rfl) T.z_len PySem.boot_len (pa_cons (pe_fld (pv 0) rfl) pa_nil)) pa_nil)) (blkOk_by (own := [("k", 2)]) (N := ["ladder", "number", "k"]) (sc := defScope s_row_of) (by decide +kernel)) (fun _ _ _ _ _ => pg_name (i := 2) sc_row_of.nd rfl (Or.inl rfl)) (fun _ _ _ _ _ => pts_nil) (fun _ _ _ _ _ => (pe_cmpR op_eq (pe_op op_and (pe_op op_shr (pv 1) (pv 2)) pe_int) pe_int (nomark _)))) pa_nil))))), ?_⟩
    unfold tChain
    walk_at "rd"
    by_cases h0 : 0 ≤ k
    case neg =>
      rw [decide_eq_false h0]
      exact iteF (qx fun z => h0 z.1)
    rw [decide_eq_true h0]
    refine iteT ⟨v, l, rfl, p, hl, _, rfl, ?_⟩
    by_cases h1 : k < ((2 ^ l.ins.length : Nat) : Int)
    case neg =>
      rw [decide_eq_false h1]
      exact iteT (qx fun z => h1 z.2)
    rw [decide_eq_true h1]
    obtain ⟨n, rfl⟩ := Int.eq_ofNat_of_zero_le h0
    obtain ⟨a, dx, ti, tt, tr, ws, rfl, ha, g1, g2, g3, g4⟩ := p
    refine iteF ⟨_, rfl, a, _, dx, _, _, rfl, ha, T.lad.c_Ladder.cl, T.lad.ni_ld, lkL1, ti, rfl, _, .inr g1.seq, ?_⟩
    rw [List.length_map]
    refine ⟨_, rfl, by omega, by omega, fun D nD => lc_range (lo := 0) (n := l.ins.length) (fun i H' => Same H H' ∧ H' D = some (.lst ((rowT n i).map V.bl))) ⟨Same.new nD, upd_same⟩ ?_ ?_⟩
    · rintro i H2 hi ⟨s2, hD⟩
      refine ⟨rfl, ?_⟩
      unfold tYes
      walk_at "rd"
      rw [Int.zero_add, bit_dec]
      refine ⟨Int.natCast_nonneg i, _, hD, by unfold rowT; rw [List.length_map, List.length_map, List.length_range, sizeLine_eq]; omega, Same.mut s2 nD, ?_⟩
      rw [upd_same, rowT_succ, List.map_append]
      rfl
    · rintro H2 ⟨s2, hD⟩
      exact ⟨D, rfl, _, .inl ⟨SqL.of hD, fun t nt => q n rfl (by omega) _ t (s2.trans (Same.new nt)) upd_same⟩⟩
theorem join_next {bs : List Bool} {i : Nat} {b : Bool} (h : bs[i]? = some b) : Builtin.bitOr (numB (bs.take i) : Nat) ((if b = true then 1 else 0) * 2 ^ ((i : Nat) : Int).toNat) = (numB (bs.take (i + 1)) : Nat) := by
  have hi := (List.getElem?_eq_some_iff.mp h).1
  have hl : (bs.take i).length = i := by rw [List.length_take]; omega
  have h1 := numB_lt (bs.take i)
  rw [hl] at h1
  rw [Int.toNat_natCast, Bits.bitOr_join (Int.natCast_nonneg _) (by exact_mod_cast h1) (by split <;> decide), List.take_succ, h]
  show _ = ((numB (bs.take i ++ [b]) : Nat) : Int)
  rw [numB_snoc, hl, Int.natCast_add, Int.natCast_mul, Int.natCast_pow]
  cases b <;> rfl
def spRowNumber (K : PySem.W.Frag) : Sp := fun vs H Q _ => ∃ (a : Addr) (bs : List Bool), vs = [.ref a] ∧ (SqL K H a (bs.map V.bl) ∨ SqT K H a (bs.map V.bl)) ∧ bs.length ≤ 60 ∧ ∀ H', Same H H' → Q (.int (numB bs : Nat)) H'
theorem ok_row_number (T : TSteps K mg cs cc xc) : FnAt P w K mg base CX0 "row_number" 1 ["row"] (spRowNumber K) := by
  refine fnAt_ok T.d_row_number sc_row_number (fun vs H Q E h => ?_) (fun f cdv A outer s H vs Q E hr h => ?_)
  · obtain ⟨a, bs, rfl, _⟩ := h; rfl
  · obtain ⟨a, bs, rfl, hs, hl, k⟩ := h
    refine ⟨_, (pss_cons (ps_set (i := 1) sc_row_number.nd rfl (by first | exact Or.inl rfl | exact Or.inr rfl) pe_int)
        (pss_cons (ps_for PassesOwn.never rfl (pi_enumA (by rfl) T.z_enumerate (pa_cons (pv 0) pa_nil)) (pg_tup rfl (pgs_cons (pg_name (i := 2) sc_row_number.nd rfl (by first | exact Or.inl rfl | exact Or.inr rfl)) (pgs_cons (pg_name (i := 3) sc_row_number.nd rfl (by first | exact Or.inl rfl | exact Or.inr rfl)) pgs_nil))) (pss_one (ps_set (i := 1) sc_row_number.nd rfl (by first | exact Or.inl rfl | exact Or.inr rfl) (pe_op op_or (pv 1) (pe_op op_shl (pe_callTy call_int1 (by rfl) T.z_int (show PySem.bootBuiltins "int" = some (.type "int") by decide +kernel) (pa_cons (pv 3) pa_nil)) (pv 2))))))
        (pss_one (ps_ret (pv 1))))), ?_⟩
    walk_at "rd"
    refine ⟨_, rfl, a, bs.map V.bl, rfl, ?_⟩
    rcases hs with hs | hs
    · refine .inl ⟨hs, for_it walk_enum (fun i σ H' => ∃ v2 v3 : Option V, σ = [some (.ref a), some (.int (numB (bs.take i) : Nat)), v2, v3] ∧ Same H H') ⟨none, none, rfl, Same.refl _⟩ (fun i σ H' _ ⟨_, _, _, s⟩ => Same.seq s hs) ?_ ?_⟩
      · rintro i x σ H1 H2 hi ⟨v2, v3, rfl, s1⟩ ⟨T', y, z, rfl, nT, rfl, hy, hz⟩
        rw [List.length_map] at hi
        have hbi : bs[i]? = some bs[i] := List.getElem?_eq_getElem hi
        simp only [List.getElem?_map, hbi, Option.map_some, Option.some.injEq] at hy hz
        subst hy hz
        refine ⟨T', _, rfl, SqT.of upd_same, rfl, ?_⟩
        walk_at "rd"
        exact ⟨⟨by omega, by omega, by split <;> decide⟩, _, _, ⟨join_next hbi, rfl, rfl⟩, s1.trans (Same.new nT)⟩
      · rintro σ H1 ⟨v2, v3, rfl, s1⟩
        rw [List.length_map, List.take_length]
        walk_at "rd"
        exact k _ s1
    · refine .inr ⟨hs, for_it walk_enumT (fun i σ H' => ∃ v2 v3 : Option V, σ = [some (.ref a), some (.int (numB (bs.take i) : Nat)), v2, v3] ∧ Same H H') ⟨none, none, rfl, Same.refl _⟩ (fun i σ H' _ ⟨_, _, _, s⟩ => Same.seqT s hs) ?_ ?_⟩
      · rintro i x σ H1 H2 hi ⟨v2, v3, rfl, s1⟩ ⟨T', y, z, rfl, nT, rfl, hy, hz⟩
        rw [List.length_map] at hi
        have hbi : bs[i]? = some bs[i] := List.getElem?_eq_getElem hi
        simp only [List.getElem?_map, hbi, Option.map_some, Option.some.injEq] at hy hz
        subst hy hz
        refine ⟨T', _, rfl, SqT.of upd_same, rfl, ?_⟩
        walk_at "rd"
        exact ⟨⟨by omega, by omega, by split <;> decide⟩, _, _, ⟨join_next hbi, rfl, rfl⟩, s1.trans (Same.new nT)⟩
      · rintro σ H1 ⟨v2, v3, rfl, s1⟩
        rw [List.length_map, List.take_length]
        walk_at "rd"
        exact k _ s1
end

/-! ## works put back: what they keep -/
theorem getL_app {α : Type} (a b : List (Str × α)) (n : Str) : getL (a ++ b) n = (getL a n).or (getL b n) := by
  unfold getL
  rw [List.find?_append]
  cases a.find? fun p => decide (p.1 = n) <;> rfl
theorem back_get {l : Lad} {k : Ws} (g : l.fit) {n : Str} (hw : n ∈ writ l.rs) : getL (backW l k).bits n = getL k.bits n := by
  show getL ((l.ins.map fun n => (n, false)) ++ k.bits) n = _
  rw [getL_app, getL_map, if_neg fun h => g.apart n h hw]
  rfl
theorem Lad.good.fit {l : Lad} (h : l.good) : l.fit := by
  obtain ⟨f1, f2, f3, f4, f5, f6, f7, f8, f9⟩ := (fair_iff l).mp h.fair
  exact ⟨f8, f6, fun r hr => ⟨(h.ok r hr).2.2.2.2.1, (h.ok r hr).2.2.2.2.2⟩⟩
theorem bl_flat : ∀ l : List Bool, (l.map V.bl).all flatV = true
  | [] => rfl
  | _ :: l => bl_flat l
theorem bl_isBl {l : List Bool} : ∀ v ∈ l.map V.bl, isBlV v = true := by
  intro v hv
  obtain ⟨b, _, rfl⟩ := List.mem_map.mp hv
  rfl
theorem Cnted.back {l : Lad} {k : Ws} (g : l.fit) (h : Cnted l.rs k) : Cnted l.rs (backW l k) := fun n e he => by
  have hb : (backW l k).bitOf n = k.bitOf n := by
    unfold Ws.bitOf
    rw [back_get g (ctE_writ he)]
  rw [hb]
  exact h n e he
theorem kept_bit {l : Lad} {u : Ws} {n : Str} (hn : n ∈ writ l.rs) : (keptW l u).bitOf n = u.bitOf n := by
  show (getL ((writ l.rs).map fun n => (n, u.bitOf n)) n).getD false = _
  rw [getL_map, if_pos hn]
  rfl

--%% NI
/-! ## a step on numbers -/
abbrev s_step : Stmt := top 40
theorem sc_step : FnScope ["ladder", "state", "number", "works", "held"] ["ladder", "state", "number"] (defScope s_step) := ⟨rfl, rfl, rfl, by decide +kernel, rfl, by decide +kernel, by decide +kernel⟩
structure TStep (K : PySem.W.Frag) (mg : Str → Option Value) (cs : Cs) (cc : Addr) (xc : Xc) (cw : Addr) : Prop where
  at_ : TStateAt K mg cs cc xc cw
  scan : TScan K mg cs cc xc cw
  steps : TSteps K mg cs cc xc
  ask2 : TAsk2 K mg cs cc xc cw
  d_step : DefAt K mg "step" s_step ["ladder", "state", "number"]
theorem bl_inj : ∀ {a b : List Bool}, a.map V.bl = b.map V.bl → a = b
  | [], [], _ => rfl
  | x :: a, y :: b, h => by
    obtain ⟨h1, h2⟩ := List.cons.inj h
    cases h1
    rw [bl_inj h2]
/-- a number that is no state -/
def NoSt (l : Lad) (x : Int) : Prop := ¬ ∃ m : Nat, x = (m : Int) ∧ m < 2 ^ widthL l.rs (writ l.rs) ∧ ∀ p ∈ pieceL l.rs m (writ l.rs), badAt l.rs p = false
theorem pieceL_at (rs : List Rg) {n : Str} : ∀ {ns : List Str} {i st : Nat}, ns[i]? = some n → (n, ((st / 2 ^ widthL rs (ns.take i) % 2 ^ bitsOf rs n : Nat) : Int)) ∈ pieceL rs st ns
  | x :: ns, 0, st, h => by
    cases h
    rw [pieceL]
    simp [widthL]
  | x :: ns, i + 1, st, h => by
    have hw : widthL rs (x :: ns.take i) = bitsOf rs x + widthL rs (ns.take i) := by unfold widthL; rw [List.map_cons, List.sum_cons]
    rw [pieceL, List.take_succ_cons, hw, Nat.pow_add, ← Nat.div_div_eq_div_mul]
    exact List.mem_cons_of_mem _ (pieceL_at rs (show ns[i]? = some n from h))
theorem noSt_neg {l : Lad} {x : Int} (h : x < 0) : NoSt l x := fun ⟨m, e, _, _⟩ => by omega
theorem noSt_high {l : Lad} {x : Nat} (h : 2 ^ widthL l.rs (writ l.rs) ≤ x) : NoSt l (x : Int) := fun ⟨m, e, hm, _⟩ => by
  have : m = x := by omega
  omega
theorem noSt_one {l : Lad} {i v : Nat} {n : Str} {e : EndC} (hn : (writ l.rs)[i]? = some n) (he : getL (ctE l.rs) n = some e) (hv : e.m < (v : Int)) (hv16 : v < 16) :
    NoSt l ((v * 2 ^ widthL l.rs ((writ l.rs).take i) : Nat) : Int) := fun ⟨m, em, _, hb⟩ => by
  have em' := (Int.ofNat.inj em).symm
  generalize hA : widthL l.rs ((writ l.rs).take i) = A at em'
  have hX : m / 2 ^ A = v := by
    rw [em', Nat.mul_div_cancel _ (Nat.two_pow_pos A)]
  have hm := hb _ (pieceL_at l.rs (st := m) hn)
  rw [hA, hX] at hm
  unfold badAt at hm
  dsimp only at hm
  rw [he] at hm
  dsimp only at hm
  have h16 : ((v % 2 ^ bitsOf l.rs n : Nat) : Int) % 16 = (v : Int) := by
    unfold bitsOf
    rw [he]
    dsimp only
    by_cases hk : e.k = .counter
    · rw [if_pos hk, show 2 ^ (4 + 1) = 32 from rfl]
      omega
    · rw [if_neg hk, show 2 ^ (4 + 0) = 16 from rfl]
      omega
  rw [h16, decide_eq_true hv] at hm
  cases hm
section
variable {P : Program} {w : World} {K : PySem.W.Frag} {mg : Str → Option Value} {base : Heap} {cs : Cs} {cc : Addr} {xc : Xc} {cw : Addr}
/-- what a scan leaves -/
def nextK (l : Lad) (k : Ws) (n : Nat) : Ws := keptW l (scanP l (backW l k) (rowT n l.ins.length)).1
theorem nextK_fits {l : Lad} {k : Ws} (f : KFits l k) (n : Nat) : KFits l (nextK l k n) := keptW_fits ((backW_fits f).scan _)
theorem nextK_cnted {l : Lad} {k : Ws} (g : l.fit) (f : KFits l k) (h : Cnted l.rs k) (n : Nat) : Cnted l.rs (nextK l k n) := (Cnted.scan g (backW_fits f) (h.back g) _).kept
def spStep (K : PySem.W.Frag) (cs : Cs) (xc : Xc) : Sp := fun vs H Q E => ∃ (v : V) (l : Lad) (st num : Int), vs = [v, .int st, .int num] ∧ IsL K cs H v l ∧ l.good ∧
  ((NoSt l st ∧ ∀ H', Same H H' → E (.ref xc.state) none H') ∨ ∃ k : Ws, KFits l k ∧ Cnted l.rs k ∧ st = (stateL l.rs k (writ l.rs) : Nat) ∧
    ((∃ n : Nat, num = (n : Int) ∧ n < 2 ^ l.ins.length ∧ ∀ (H' : Hp) (r : Addr), Same H H' → H' r = some (.tup [.int (stateL l.rs (nextK l k n) (writ l.rs) : Nat), .int (numB (l.outs.map fun m => (nextK l k n).bitOf m) : Nat), .int (numB (scanP l (backW l k) (rowT n l.ins.length)).2 : Nat)]) → Q (.ref r) H') ∨
      (¬ (0 ≤ num ∧ num < ((2 ^ l.ins.length : Nat) : Int)) ∧ ∀ H', Same H H' → E (.ref xc.row) none H')))
theorem ok_step (T : TStep K mg cs cc xc cw) : FnAt P w K mg base (L2.CX P w) "step" 23 ["ladder", "state", "number"] (spStep K cs xc) := by
  have GX_works_at := ok_worksAt (P := P) (w := w) (base := base) T.at_
  have GX_row_of := ok_row_of (P := P) (w := w) (base := base) T.steps
  have G_scan := (disp_scan (P := P) (w := w) (base := base) T.scan).calm
  have G_state_of := ok_stateOf (P := P) (w := w) (base := base) T.at_.st
  have G_row_number := ok_row_number (P := P) (w := w) (base := base) T.steps
  have G_answers := disp_answers (P := P) (w := w) (base := base) T.ask2
  refine fnAt_okX T.d_step sc_step (fun vs H Q E h => ?_) (fun f cdv A outer st H vs Q E hr h => ?_)
  · obtain ⟨v, l, s, num, rfl, _⟩ := h; rfl
  · obtain ⟨v, l, s, num, rfl, hL, hg, h⟩ := h
    have hu := hu_of hr
    have lf := hg.fit
    obtain ⟨f1, f2, f3, f4, f5, f6, f7, f8, f9⟩ := (fair_iff l).mp hg.fair
    refine ⟨_, (pss_cons (ps_set (i := 3) sc_step.nd rfl (by first | exact Or.inl rfl | exact Or.inr rfl) (pe_callF GX_works_at hr (passX (L2.takes_of rfl rfl rfl rfl)) (pa_cons (pv 0) (pa_cons (pv 1) pa_nil))))
        (pss_cons (ps_set (i := 4) sc_step.nd rfl (by first | exact Or.inl rfl | exact Or.inr rfl) (pe_methD G_scan hr pass0 (pv 3) (pa_cons (pe_callF GX_row_of hr (passX (L2.takes_of rfl rfl rfl rfl)) (pa_cons (pv 0) (pa_cons (pv 2) pa_nil))) pa_nil)))
        (pss_one (ps_ret (pe_tup (pa_cons (pe_callF G_state_of hr pass0 (pa_cons (pv 3) pa_nil)) (pa_cons (pe_callF G_row_number hr pass0 (pa_cons (pe_methD0 G_answers hr pass0 (pv 3)) pa_nil)) (pa_cons (pe_callF G_row_number hr pass0 (pa_cons (pv 4) pa_nil)) pa_nil)))))))), ?_⟩
    walk_at "rd"
    rcases h with ⟨hno, kx⟩ | ⟨kw, kf, ck, rfl, h⟩
    · exact ⟨v, l, s, rfl, hL, hg.fair, fun m em hm hb => absurd ⟨m, em, hm, hb⟩ hno, fun _ H1 s1 => kx H1 s1⟩
    refine ⟨v, l, _, rfl, hL, hg.fair, fun m em hm hb H1 x dx b c s s1 nx nb nc ns hx tri => ?_, fun hno => absurd ⟨_, rfl, state_lt kf lf ck, bad_state kf lf ck⟩ hno⟩
    have em' : stateL l.rs kw (writ l.rs) = m := Int.ofNat.inj em
    subst em'
    rw [at_state hg.fair kf lf ck] at tri
    clear hm hb em
    have bf := backW_fits kf
    have hL1 := hL.mono (cs := cs) (Same.imm s1)
    have hsz : ∀ g ∈ l.rs, g.c.size ≤ 60 ∧ g.c.depth ≤ 20 := fun g hg' => ⟨(hg.ok g hg').2.1, (hg.ok g hg').2.2.1⟩
    refine ⟨_, rfl, x, cw, dx, _, rfl, hx, rfl, lkWn (by decide +kernel), _, rfl, _, rfl, v, l, num, rfl, hL1, by omega, ?_⟩
    rcases h with ⟨n, rfl, hn, k⟩ | ⟨hbad, kx⟩
    · refine ⟨fun n' en hn' H2 tr s2 htr => ?_, fun z => absurd ⟨Int.natCast_nonneg n, by exact_mod_cast hn⟩ z⟩
      obtain rfl : n = n' := Int.ofNat.inj en
      have s12 := s1.trans s2
      have hx2 := s2 _ _ hx
      have tri2 := tri.keep s2
      have hL2 := hL1.mono (cs := cs) (Same.imm s2)
      have hne : x ≠ b ∧ x ≠ c ∧ x ≠ s := by
        refine ⟨fun e => ?_, fun e => ?_, fun e => ?_⟩
        · rw [e, tri.hb] at hx; cases hx
        · rw [e, tri.hc] at hx; cases hx
        · rw [e, tri.hs] at hx; cases hx
      refine ⟨x, dx, tr, b, c, s, v, l, backW l kw, (rowT n l.ins.length).map V.bl, rfl, hx2, hL2, tri2, bf, hg.fair, hsz, .inr (SqT.of htr), bl_flat _, fun row' e hl' H3 th bt nth tri3 hth => ?_, fun hno => absurd ⟨by rw [List.length_map, rowT_len], bl_isBl⟩ hno⟩
      have er : rowT n l.ins.length = row' := bl_inj e
      subst er
      have hx3 : H3 x = some (.ins cw dx (wkF v b c s)) := bt _ _ hx2 hne.1 hne.2.1 hne.2.2
      have hL3 : IsL K cs H3 v l := hL2.mono (bt.imm tri2)
      have s03 : Same H H3 := bt.same s12 nb nc ns
      have fu := bf.scan (rowT n l.ins.length)
      have kn := nextK_fits kf n
      have cn := nextK_cnted lf kf ck n
      refine ⟨x, dx, b, c, s, v, _, l, rfl, hx3, hL3, tri3, fu, hg.fair, kn.cntOk lf cn, kn.numOk lf cn, fun H4 s4 => ?_⟩
      refine ⟨_, rfl, x, cw, dx, _, rfl, s4 _ _ hx3, rfl, lkWn (by decide +kernel), x, dx, b, c, s, v, _, l, rfl, s4 _ _ hx3, hL3.mono (Same.imm s4), tri3.keep s4, fun m hm => by rw [fu.kb]; exact List.mem_append_right _ (f7 m hm), by omega, fun H5 ta s5 nta hta => ?_⟩
      have houts : l.outs.map (fun m => (getL (scanP l (backW l kw) (rowT n l.ins.length)).1.bits m).getD false) = l.outs.map fun m => (nextK l kw n).bitOf m := List.map_congr_left fun m hm => by
        unfold nextK
        rw [kept_bit (f7 m hm)]
        rfl
      rw [houts] at hta
      refine ⟨ta, _, rfl, .inr (SqT.of hta), by rw [List.length_map]; omega, fun H6 s6 => ?_⟩
      have s36 := (s4.trans s5).trans s6
      refine ⟨th, _, rfl, .inr (SqT.of (s36 _ _ hth)), by rw [scanP_len]; omega, fun H7 s7 => ⟨line_ge (by decide), fun r nr => k _ r ((s03.trans s36).trans (s7.trans (Same.new nr))) upd_same⟩⟩
    · exact ⟨fun n' en hn' => absurd ⟨by omega, by rw [en]; exact_mod_cast hn'⟩ hbad, fun _ => kx H1 s1⟩
end

--%% NJ
/-! ## all states that runs come to: the plain side -/
abbrev Ent := Nat × Int × Int
def stsL (fs : List Ent) : List Nat := fs.map (·.1)
def stAt (fs : List Ent) (a : Nat) : Nat := (fs.getD a (0, -1, -1)).1
def grow (S : Nat → Nat → Nat) (fs : List Ent) (a r : Nat) : List Ent := if S (stAt fs a) r ∈ stsL fs then fs else fs ++ [(S (stAt fs a) r, (a : Int), (r : Int))]
def goRow (S : Nat → Nat → Nat) (fs : List Ent) (a n : Nat) : List Ent := (List.range n).foldl (fun fs r => grow S fs a r) fs
def lev (S : Nat → Nat → Nat) (R : Nat) : Nat → List Ent
  | 0 => [(0, -1, -1)]
  | a + 1 => if a < (lev S R a).length then goRow S (lev S R a) a R else lev S R a
section
variable {S : Nat → Nat → Nat} {R : Nat}
theorem goRow_zero (fs : List Ent) (a : Nat) : goRow S fs a 0 = fs := rfl
theorem goRow_succ (fs : List Ent) (a n : Nat) : goRow S fs a (n + 1) = grow S (goRow S fs a n) a n := by
  unfold goRow
  rw [List.range_succ, List.foldl_append]
  rfl
theorem grow_pre (fs : List Ent) (a r : Nat) : fs <+: grow S fs a r := by
  unfold grow
  split
  · exact List.prefix_refl _
  · exact List.prefix_append _ _
theorem goRow_pre (fs : List Ent) (a : Nat) : ∀ n, fs <+: goRow S fs a n
  | 0 => List.prefix_refl _
  | n + 1 => by
    rw [goRow_succ]
    exact (goRow_pre fs a n).trans (grow_pre _ _ _)
theorem goRow_mono (fs : List Ent) (a : Nat) {m n : Nat} (h : m ≤ n) : goRow S fs a m <+: goRow S fs a n := by
  induction n with
  | zero =>
    rw [Nat.le_zero.mp h]
    exact List.prefix_refl _
  | succ n ih =>
    rcases Nat.lt_or_ge n m with q | q
    · rw [show m = n + 1 by omega]
      exact List.prefix_refl _
    · rw [goRow_succ]
      exact (ih q).trans (grow_pre _ _ _)
theorem lev_step (a : Nat) : lev S R a <+: lev S R (a + 1) := by
  rw [lev]
  split
  · exact goRow_pre _ _ _
  · exact List.prefix_refl _
theorem lev_mono {a b : Nat} (h : a ≤ b) : lev S R a <+: lev S R b := by
  induction b with
  | zero =>
    rw [Nat.le_zero.mp h]
    exact List.prefix_refl _
  | succ b ih =>
    rcases Nat.lt_or_ge b a with q | q
    · rw [show a = b + 1 by omega]
      exact List.prefix_refl _
    · exact (ih q).trans (lev_step b)
theorem pre_get {fs gs : List Ent} (h : fs <+: gs) {i : Nat} (hi : i < fs.length) : gs[i]? = fs[i]? := by
  obtain ⟨t, rfl⟩ := h
  rw [List.getElem?_append_left hi]
theorem pre_st {fs gs : List Ent} (h : fs <+: gs) {i : Nat} (hi : i < fs.length) : stAt gs i = stAt fs i := by
  unfold stAt
  rw [List.getD_eq_getElem?_getD, List.getD_eq_getElem?_getD, pre_get h hi]
theorem lev_pos (a : Nat) : 0 < (lev S R a).length := by
  have := (lev_mono (S := S) (R := R) (Nat.zero_le a)).length_le
  exact this
theorem lev_head (a : Nat) : (lev S R a)[0]? = some (0, -1, -1) := pre_get (lev_mono (Nat.zero_le a)) (by show 0 < 1; decide)
/-- what all that is found has -/
structure Found (R : Nat) (S : Nat → Nat → Nat) (fs : List Ent) (m : Nat) : Prop where
  nd : (stsL fs).Nodup
  head : fs[0]? = some (0, -1, -1)
  ent : ∀ (p : Nat) (e : Ent), fs[p]? = some e → 0 < p → ∃ a r : Nat, a < p ∧ r < R ∧ e = (S (stAt fs a) r, (a : Int), (r : Int)) ∧ a ≤ m
  sort : ∀ (p q : Nat) (e f : Ent), p ≤ q → fs[p]? = some e → fs[q]? = some f → e.2.1 ≤ f.2.1
theorem Found.zero : Found R S [(0, -1, -1)] 0 := by
  refine ⟨by simp [stsL], rfl, fun p e h hp => ?_, fun p q e f h h1 h2 => ?_⟩
  · obtain ⟨q, rfl⟩ : ∃ q, p = q + 1 := ⟨p - 1, by omega⟩
    cases h
  · cases q with
    | zero =>
      cases Nat.le_zero.mp h
      cases h1
      cases h2
      exact Int.le_refl _
    | succ q => cases h2
theorem Found.up {fs : List Ent} {m n : Nat} (h : Found R S fs m) (hm : m ≤ n) : Found R S fs n := ⟨h.nd, h.head, fun p e q hp => let ⟨a, r, h1, h2, h3, h4⟩ := h.ent p e q hp; ⟨a, r, h1, h2, h3, by omega⟩, h.sort⟩
theorem Found.grow {fs : List Ent} {a r : Nat} (h : Found R S fs a) (ha : a < fs.length) (hr : r < R) : Found R S (grow S fs a r) a := by
  unfold My.grow
  split
  · exact h
  · rename_i hn
    have hlast : ∀ e, e ∈ fs → e.2.1 ≤ (a : Int) := fun e he => by
      obtain ⟨p, hp⟩ := List.getElem?_of_mem he
      rcases Nat.eq_zero_or_pos p with q | q
      · subst q
        rw [h.head] at hp
        cases hp
        show (-1 : Int) ≤ a
        omega
      · obtain ⟨b, r', _, _, rfl, hb⟩ := h.ent p e hp q
        show (b : Int) ≤ a
        omega
    have hp0 : fs.length ≠ 0 := by omega
    refine ⟨?_, ?_, fun p e q hp => ?_, fun p q e f hpq h1 h2 => ?_⟩
    · unfold stsL
      rw [List.map_append, List.nodup_append]
      exact ⟨h.nd, by simp, fun x hx y hy e => hn (by rw [List.mem_singleton.mp hy] at e; have e : x = S (stAt fs a) r := e; rw [← e]; exact hx)⟩
    · rw [List.getElem?_append_left (by omega)]
      exact h.head
    · rcases Nat.lt_or_ge p fs.length with hl | hl
      · rw [List.getElem?_append_left hl] at q
        obtain ⟨b, r', h1, h2, h3, h4⟩ := h.ent p e q hp
        refine ⟨b, r', h1, h2, ?_, h4⟩
        rw [pre_st (List.prefix_append _ _) (by omega)]
        exact h3
      · rw [List.getElem?_append_right hl] at q
        have hpe : p = fs.length := by
          have := (List.getElem?_eq_some_iff.mp q).1
          simp at this
          omega
        rw [hpe, Nat.sub_self] at q
        cases q
        refine ⟨a, r, by omega, hr, ?_, Nat.le_refl _⟩
        rw [pre_st (List.prefix_append _ _) ha]
    · rcases Nat.lt_or_ge q fs.length with hl | hl
      · rw [List.getElem?_append_left hl] at h2
        rw [List.getElem?_append_left (by omega)] at h1
        exact h.sort p q e f hpq h1 h2
      · rw [List.getElem?_append_right hl] at h2
        have hqe : q = fs.length := by
          have := (List.getElem?_eq_some_iff.mp h2).1
          simp at this
          omega
        rw [hqe, Nat.sub_self] at h2
        cases h2
        rcases Nat.lt_or_ge p fs.length with hl2 | hl2
        · rw [List.getElem?_append_left hl2] at h1
          exact hlast e (List.mem_of_getElem? h1)
        · rw [List.getElem?_append_right hl2, show p - fs.length = 0 by omega] at h1
          cases h1
          exact Int.le_refl _
theorem Found.row {fs : List Ent} {a : Nat} (h : Found R S fs a) (ha : a < fs.length) : ∀ n, n ≤ R → Found R S (goRow S fs a n) a
  | 0, _ => h
  | n + 1, hn => by
    rw [goRow_succ]
    exact (h.row ha n (by omega)).grow (by have := (goRow_pre (S := S) fs a n).length_le; omega) (by omega)
theorem lev_found : ∀ a, Found R S (lev S R a) a
  | 0 => .zero
  | a + 1 => by
    rw [lev]
    split
    · rename_i ha
      exact ((lev_found a).row ha R (Nat.le_refl _)).up (Nat.le_succ a)
    · exact (lev_found a).up (Nat.le_succ a)
/-- what holds of all that is found -/
theorem lev_all {Pr : Nat → Prop} (h0 : Pr 0) (hs : ∀ s r, Pr s → r < R → Pr (S s r)) (a : Nat) : ∀ s ∈ stsL (lev S R a), Pr s := by
  have key : ∀ (p : Nat) (e : Ent), (lev S R a)[p]? = some e → Pr e.1 := fun p => by
    induction p using Nat.strongRecOn with
    | ind p ih =>
      intro e he
      rcases Nat.eq_zero_or_pos p with q | q
      · subst q
        rw [(lev_found a).head] at he
        cases he
        exact h0
      · obtain ⟨b, r, hb, hr, rfl, _⟩ := (lev_found a).ent p e he q
        refine hs _ r ?_ hr
        have hbl : b < (lev S R a).length := by
          have := (List.getElem?_eq_some_iff.mp he).1
          omega
        have := ih b hb _ (List.getElem?_eq_getElem hbl)
        unfold stAt
        rw [List.getD_eq_getElem?_getD, List.getElem?_eq_getElem hbl]
        exact this
  intro s hs'
  obtain ⟨e, he, rfl⟩ := List.mem_map.mp hs'
  obtain ⟨p, hp⟩ := List.getElem?_of_mem he
  exact key p e hp
/-- all is found behind N places -/
structure Done (S : Nat → Nat → Nat) (R N : Nat) : Prop where
  len : (lev S R N).length = N
  run : ∀ a, a < N → a < (lev S R a).length
theorem Done.rest {N : Nat} (d : Done S R N) : ∀ k, lev S R (N + k) = lev S R N
  | 0 => rfl
  | k + 1 => by
    rw [← Nat.add_assoc, lev, d.rest k, if_neg (by rw [d.len]; omega)]
theorem Done.most {N : Nat} (d : Done S R N) (a : Nat) : (lev S R a).length ≤ N := by
  rcases Nat.lt_or_ge a N with h | h
  · have := (lev_mono (S := S) (R := R) (Nat.le_of_lt h)).length_le
    rw [d.len] at this
    exact this
  · rw [show a = N + (a - N) by omega, d.rest, d.len]
    exact Nat.le_refl _
theorem done_of {B : Nat} (h : ∀ a, (lev S R a).length ≤ B) : ∃ N, N ≤ B ∧ Done S R N := by
  have ex : ∃ N, N ≤ B ∧ ¬ N < (lev S R N).length := ⟨B, Nat.le_refl _, by have := h B; omega⟩
  have least : ∀ n, (∃ N, N ≤ n ∧ ¬ N < (lev S R N).length) → ∃ N, N ≤ n ∧ ¬ N < (lev S R N).length ∧ ∀ a, a < N → a < (lev S R a).length := fun n => by
    induction n with
    | zero =>
      rintro ⟨N, hN, q⟩
      exact ⟨N, hN, q, fun a ha => by omega⟩
    | succ n ih =>
      rintro ⟨N, hN, q⟩
      by_cases hx : ∃ M, M ≤ n ∧ ¬ M < (lev S R M).length
      · obtain ⟨M, h1, h2, h3⟩ := ih hx
        exact ⟨M, by omega, h2, h3⟩
      · refine ⟨N, hN, q, fun a ha => ?_⟩
        rcases Nat.lt_or_ge a (lev S R a).length with z | z
        · exact z
        · exact absurd ⟨a, by omega, by omega⟩ hx
  obtain ⟨N, hN, h1, h2⟩ := least B ex
  refine ⟨N, hN, ?_, h2⟩
  rcases Nat.eq_zero_or_pos N with q | q
  · subst q
    have := lev_pos (S := S) (R := R) 0
    omega
  · have h3 := h2 (N - 1) (by omega)
    have h4 := (lev_mono (S := S) (R := R) (show N - 1 ≤ N by omega)).length_le
    omega
theorem Done.one {N M : Nat} (d : Done S R N) (e : Done S R M) : N = M := by
  rcases Nat.lt_trichotomy N M with h | h | h
  · have := e.run N h
    rw [d.len] at this
    omega
  · exact h
  · have := d.run M h
    rw [e.len] at this
    omega
theorem nodup_le : ∀ {a b : List Nat}, a.Nodup → (∀ x ∈ a, x ∈ b) → a.length ≤ b.length
  | [], _, _, _ => Nat.zero_le _
  | x :: a, b, hn, h => by
    obtain ⟨n1, n2⟩ := List.nodup_cons.mp hn
    have hx := h x List.mem_cons_self
    have h2 : a.length ≤ (b.erase x).length := nodup_le n2 fun y hy => by
      have hne : y ≠ x := fun e => n1 (e ▸ hy)
      exact (List.mem_erase_of_ne hne).mpr (h y (List.mem_cons_of_mem _ hy))
    rw [List.length_erase_of_mem hx] at h2
    have := List.length_pos_of_mem hx
    rw [List.length_cons]
    omega
theorem lev_le {L : List Nat} (h : ∀ a, ∀ s ∈ stsL (lev S R a), s ∈ L) (a : Nat) : (lev S R a).length ≤ L.length := by
  have := nodup_le (lev_found (S := S) (R := R) a).nd (h a)
  unfold stsL at this
  rw [List.length_map] at this
  exact this
/-! ### runs -/
def pathF (fs : List Ent) : Nat → Nat → List Nat
  | 0, _ => []
  | k + 1, p => if p = 0 then [] else pathF fs k ((fs.getD p (0, -1, -1)).2.1.toNat) ++ [(fs.getD p (0, -1, -1)).2.2.toNat]
def path (fs : List Ent) (p : Nat) : List Nat := pathF fs p p
def runS (S : Nat → Nat → Nat) (s : Nat) (way : List Nat) : Nat := way.foldl S s
theorem runS_snoc (S : Nat → Nat → Nat) (s : Nat) (w : List Nat) (r : Nat) : runS S s (w ++ [r]) = S (runS S s w) r := by
  unfold runS
  rw [List.foldl_append]
  rfl
theorem Found.at_ {fs : List Ent} {m p : Nat} (h : Found R S fs m) (hp : p < fs.length) (h0 : 0 < p) : ∃ a r : Nat, a < p ∧ r < R ∧ fs[p]? = some (S (stAt fs a) r, (a : Int), (r : Int)) := by
  obtain ⟨a, r, h1, h2, h3, _⟩ := h.ent p _ (List.getElem?_eq_getElem hp) h0
  exact ⟨a, r, h1, h2, by rw [List.getElem?_eq_getElem hp, h3]⟩
theorem pathF_enough {fs : List Ent} {m : Nat} (h : Found R S fs m) : ∀ k p, p ≤ k → p < fs.length → pathF fs k p = pathF fs p p := fun k => by
  induction k using Nat.strongRecOn with
  | ind k ih =>
    intro p hk hp
    rcases Nat.eq_zero_or_pos p with q | q
    · subst q
      cases k with
      | zero => rfl
      | succ k => simp [pathF]
    · obtain ⟨a, r, h1, h2, h3⟩ := h.at_ hp q
      obtain ⟨k', rfl⟩ : ∃ k', k = k' + 1 := ⟨k - 1, by omega⟩
      obtain ⟨p', rfl⟩ : ∃ p', p = p' + 1 := ⟨p - 1, by omega⟩
      rw [pathF, pathF, if_neg (by omega), if_neg (by omega), List.getD_eq_getElem?_getD, h3]
      show pathF fs k' ((a : Int).toNat) ++ _ = pathF fs p' ((a : Int).toNat) ++ _
      rw [Int.toNat_natCast, ih k' (by omega) a (by omega) (by omega)]
      rcases Nat.lt_or_ge p' k' with z | z
      · rw [ih p' (by omega) a (by omega) (by omega)]
      · have : p' = k' := by omega
        rw [this, ih k' (by omega) a (by omega) (by omega)]
theorem path_zero (fs : List Ent) : path fs 0 = [] := rfl
theorem path_step {fs : List Ent} {m p a r : Nat} {s : Nat} (h : Found R S fs m) (hp : p < fs.length) (h0 : 0 < p) (ha : a < p) (e : fs[p]? = some (s, (a : Int), (r : Int))) : path fs p = path fs a ++ [r] := by
  obtain ⟨p', rfl⟩ : ∃ p', p = p' + 1 := ⟨p - 1, by omega⟩
  unfold path
  rw [pathF, if_neg (by omega), List.getD_eq_getElem?_getD, e]
  show pathF fs p' ((a : Int).toNat) ++ [((r : Int)).toNat] = _
  rw [Int.toNat_natCast, Int.toNat_natCast, pathF_enough h p' a (by omega) (by omega)]
theorem path_run {fs : List Ent} {m : Nat} (h : Found R S fs m) : ∀ p, p < fs.length → runS S 0 (path fs p) = stAt fs p := fun p => by
  induction p using Nat.strongRecOn with
  | ind p ih =>
    intro hp
    rcases Nat.eq_zero_or_pos p with q | q
    · subst q
      unfold stAt
      rw [List.getD_eq_getElem?_getD, h.head]
      rfl
    · obtain ⟨a, r, h1, h2, h3⟩ := h.at_ hp q
      rw [path_step h hp q h1 h3, runS_snoc, ih a h1 (by omega)]
      unfold stAt
      rw [List.getD_eq_getElem?_getD (l := fs) (i := p), h3]
      rfl
theorem path_lt {fs : List Ent} {m : Nat} (h : Found R S fs m) : ∀ p, p < fs.length → ∀ r ∈ path fs p, r < R := fun p => by
  induction p using Nat.strongRecOn with
  | ind p ih =>
    intro hp r hr
    rcases Nat.eq_zero_or_pos p with q | q
    · subst q
      cases hr
    · obtain ⟨a, r', h1, h2, h3⟩ := h.at_ hp q
      rw [path_step h hp q h1 h3] at hr
      rcases List.mem_append.mp hr with hr | hr
      · exact ih a h1 (by omega) r hr
      · rw [List.mem_singleton.mp hr]
        exact h2
theorem path_len {fs : List Ent} {m : Nat} (h : Found R S fs m) : ∀ q, q < fs.length → ∀ p, p ≤ q → (path fs p).length ≤ (path fs q).length := fun q => by
  induction q using Nat.strongRecOn with
  | ind q ih =>
    intro hq p hpq
    rcases Nat.eq_zero_or_pos p with z | z
    · subst z
      exact Nat.zero_le _
    · obtain ⟨a, r, h1, h2, h3⟩ := h.at_ (show p < fs.length by omega) z
      obtain ⟨b, r', h1', h2', h3'⟩ := h.at_ hq (by omega)
      rw [path_step h (by omega) z h1 h3, path_step h hq (by omega) h1' h3', List.length_append, List.length_append]
      have hab := h.sort p q _ _ hpq h3 h3'
      have := ih b h1' (by omega) a (by have : (a : Int) ≤ b := hab; omega)
      simp
      exact this
theorem path_bound {fs : List Ent} {m : Nat} (h : Found R S fs m) : ∀ p, p < fs.length → (path fs p).length ≤ p := fun p => by
  induction p using Nat.strongRecOn with
  | ind p ih =>
    intro hp
    rcases Nat.eq_zero_or_pos p with q | q
    · subst q
      exact Nat.le_refl _
    · obtain ⟨a, r, h1, h2, h3⟩ := h.at_ hp q
      have := ih a h1 (by omega)
      rw [path_step h hp q h1 h3, List.length_append]
      simp
      omega
end

--%% NK
/-! ## all states that runs come to -/
abbrev s_reached : Stmt := top 42
theorem sc_reached : FnScope ["ladder", "most", "found", "seen", "at", "number", "state"] ["ladder", "most"] (defScope s_reached) := ⟨rfl, rfl, rfl, by decide +kernel, rfl, by decide +kernel, by decide +kernel⟩
abbrev s_run_to : Stmt := top 43
theorem sc_run_to : FnScope ["found", "place", "run", "state", "ahead", "number"] ["found", "place"] (defScope s_run_to) := ⟨rfl, rfl, rfl, by decide +kernel, rfl, by decide +kernel, by decide +kernel⟩
structure TReach (K : PySem.W.Frag) (mg : Str → Option Value) (cs : Cs) (cc : Addr) (xc : Xc) (cw : Addr) : Prop where
  stp : TStep K mg cs cc xc cw
  d_reached : DefAtD K mg "reached" s_reached ["ladder", "most"] "most" (.int 500)
  d_run_to : DefAt K mg "run_to" s_run_to ["found", "place"]
  z_len : mg "len" = none
  z_range : mg "range" = none
theorem state_new (l : Lad) (g : l.fit) : stateL l.rs (keptW l (wNew l)) (writ l.rs) = 0 := by
  have hz : ∀ ns, (∀ n ∈ ns, n ∈ writ l.rs) → stateL l.rs (keptW l (wNew l)) ns = 0 := fun ns => by
    induction ns with
    | nil => intro _; rfl
    | cons n ns ih =>
      intro hm
      have hn := hm n List.mem_cons_self
      rw [stateL, ih fun m hm' => hm m (List.mem_cons_of_mem _ hm'), Nat.mul_zero, Nat.add_zero]
      have hb : (keptW l (wNew l)).bitOf n = false := by
        rw [kept_bit hn]
        show (getL ((l.ins ++ writ l.rs).map fun n => (n, false)) n).getD false = false
        rw [getL_map]
        split <;> rfl
      have h1 : (keptW l (wNew l)).cntOf n = 0 := by
        show (getL (cnt0 l.rs) n).getD 0 = 0
        cases h : getL (cnt0 l.rs) n with
        | none => rfl
        | some v => rw [cnt0_get _ _ _ h]; rfl
      have h2 : (keptW l (wNew l)).seenOf n = false := by
        have key : ∀ rs n v, getL (seen0 rs) n = some v → v = false := fun rs => writ_ind (p := fun rs => ∀ n v, getL (seen0 rs) n = some v → v = false) (fun n v h => by cases h) (fun rs r ih n v h => by
          rw [seen0_snoc] at h
          split at h
          · rw [getL_put] at h
            split at h
            · cases h; rfl
            · exact ih n v h
          · exact ih n v h) rs
        show (getL (seen0 l.rs) n).getD false = false
        cases h : getL (seen0 l.rs) n with
        | none => rfl
        | some v => rw [key _ _ _ h]; rfl
      unfold numOf
      rw [h1, h2, hb]
      split <;> rfl
  exact hz _ fun n hn => hn
/-- what a state's works keep -/
def kAt (l : Lad) (s : Nat) : Ws := keptW l (overW l (wNew l) (atW l.rs (pieceL l.rs s (writ l.rs))))
/-- a step, from state to state -/
def stepS (l : Lad) (s r : Nat) : Nat := stateL l.rs (nextK l (kAt l s) r) (writ l.rs)
def GoodS (l : Lad) (s : Nat) : Prop := ∃ k, KFits l k ∧ Cnted l.rs k ∧ s = stateL l.rs k (writ l.rs)
section
variable {l : Lad}
theorem kAt_state (hg : l.good) {k : Ws} (f : KFits l k) (h : Cnted l.rs k) : kAt l (stateL l.rs k (writ l.rs)) = k := by
  unfold kAt
  rw [at_state hg.fair f hg.fit h, kept_back f hg.fit]
theorem GoodS.zero (hg : l.good) : GoodS l 0 := ⟨_, keptW_fits (fits_new l), (Cnted.new hg.fit).kept, (state_new l hg.fit).symm⟩
theorem GoodS.step (hg : l.good) {s : Nat} (h : GoodS l s) (r : Nat) : GoodS l (stepS l s r) := by
  obtain ⟨k, f, c, rfl⟩ := h
  unfold stepS
  rw [kAt_state hg f c]
  exact ⟨_, nextK_fits f r, nextK_cnted hg.fit f c r, rfl⟩
def levL (l : Lad) (a : Nat) : List Ent := lev (stepS l) (2 ^ l.ins.length) a
theorem levL_good (hg : l.good) (a : Nat) : ∀ s ∈ stsL (levL l a), GoodS l s := lev_all (GoodS.zero hg) (fun s r h _ => h.step hg r) a
end
/-- what is seen, by states -/
def seenD (L : List Nat) : List (Key × V) := L.map fun s : Nat => (Sum.inl (s : Int), V.bl true)
theorem seenD_in (s : Nat) : ∀ L : List Nat, (valV (seenD L) (Sum.inl (s : Int) : Key)).isSome = decide (s ∈ L) := fun L => by
  induction L with
  | nil => rfl
  | cons x L ih =>
    unfold valV seenD at ih ⊢
    by_cases h : x = s
    · subst h
      simp
    · have hne : ¬ ((Sum.inl (x : Int) : Key) = Sum.inl (s : Int)) := fun e => h (by have := Sum.inl.inj e; omega)
      rw [List.map_cons, List.find?_cons_of_neg (by simpa using hne), ih]
      simp [Ne.symm h, eq_comm]
theorem seenD_put {s : Nat} {L : List Nat} (h : s ∉ L) : putK (seenD L) (Sum.inl (s : Int) : Key) (.bl true) = seenD (L ++ [s]) := by
  unfold putK
  rw [if_neg]
  · unfold seenD
    rw [List.map_append]
    rfl
  · unfold seenD
    rw [List.any_eq_true]
    rintro ⟨x, hx, hd⟩
    obtain ⟨y, hy, rfl⟩ := List.mem_map.mp hx
    have := Sum.inl.inj (of_decide_eq_true hd)
    exact h (by rw [show s = y by omega]; exact hy)
def entV (e : Ent) : HO := .tup [.int (e.1 : Nat), .int e.2.1, .int e.2.2]
def IsEnt (H : Hp) (v : V) (e : Ent) : Prop := ∃ t, v = .ref t ∧ H t = some (entV e)
theorem IsEnt.mono {T : Addr → Prop} {H H' : Hp} (k : Imm T H H') {v : V} {e : Ent} (h : IsEnt H v e) : IsEnt H' v e := let ⟨t, e1, h⟩ := h; ⟨t, e1, k _ _ h trivial⟩
section
variable {P : Program} {w : World} {K : PySem.W.Frag} {mg : Str → Option Value} {base : Heap} {cs : Cs} {cc : Addr} {xc : Xc} {cw : Addr}
def spReached (K : PySem.W.Frag) (cs : Cs) (xc : Xc) : Sp := fun vs H Q E => ∃ (v : V) (l : Lad) (most : Int), vs = [v, .int most] ∧ IsL K cs H v l ∧ l.good ∧ most ≤ 1000000 ∧
  (∀ N, Done (stepS l) (2 ^ l.ins.length) N → ((N : Int) ≤ most ∨ N ≤ 1) → ∀ (H' : Hp) (p : Addr) (ws : List V), Same H H' → H p = none → H' p = some (.lst ws) → Two (IsEnt H') ws (levL l N) → Q (.ref p) H') ∧
  (∀ a, most < ((levL l a).length : Int) → 1 < (levL l a).length → ∀ H', Same H H' → E (.ref xc.many) none H')
theorem ok_reached (T : TReach K mg cs cc xc cw) : FnAtD P w K mg base (L2.CX P w) "reached" 24 ["ladder", "most"] "most" (.int 500) (spReached K cs xc) := by
  have G_step := (ok_step (P := P) (w := w) (base := base) T.stp).calm
  have G_rows := ok_rows (P := P) (w := w) (base := base) T.stp.steps
  have e_TooMany := T.stp.at_.st.exs.e_many
  refine fnAtD_okX T.d_reached sc_reached (fun vs H Q E h => ?_) (fun f cdv A outer st H vs Q E hr h => ?_)
  · obtain ⟨v, l, most, rfl, _⟩ := h; rfl
  · obtain ⟨v, l, most, rfl, hL, hg, hmost, k, kx⟩ := h
    have hu := hu_of hr
    refine ⟨_, (pss_cons (ps_set (i := 2) sc_reached.nd rfl (by first | exact Or.inl rfl | exact Or.inr rfl) (pe_lst (pa_cons (pe_tup (pa_cons pe_int (pa_cons (pe_un un_neg pe_int) (pa_cons (pe_un un_neg pe_int) pa_nil)))) pa_nil)))
        (pss_cons (ps_set (i := 3) sc_reached.nd rfl (by first | exact Or.inl rfl | exact Or.inr rfl) (pe_disp (pps_cons pe_int pe_bl pps_nil) rfl rfl (by simp) (by decide)))
        (pss_cons (ps_set (i := 4) sc_reached.nd rfl (by first | exact Or.inl rfl | exact Or.inr rfl) pe_int)
        (pss_cons (ps_while (L2.passes_of rfl) (pt_cmpR op_lt (pv 4) (pe_callB call_len_seq (by rfl) T.z_len PySem.boot_len (pa_cons (pv 2) pa_nil)) (nomark _)) (pss_cons (ps_for (L2.passes_of rfl) rfl (pi_range1 rfl T.z_range (pa_cons (pe_callF G_rows hr pass0 (pa_cons (pv 0) pa_nil)) pa_nil)) (pg_name (i := 5) sc_reached.nd rfl (by first | exact Or.inl rfl | exact Or.inr rfl)) (pss_cons (ps_set (i := 6) sc_reached.nd rfl (by first | exact Or.inl rfl | exact Or.inr rfl) (pe_ix ix_tup (pe_callF G_step hr pass0 (pa_cons (pv 0) (pa_cons (pe_ix ix_tup (pe_ix ix_list (pv 2) (pv 4) (fun _ _ => rfl)) pe_int (fun _ _ => rfl)) (pa_cons (pv 5) pa_nil)))) pe_int (fun _ _ => rfl)))
            (pss_one (ps_if (pt_cmp (pc_dnotin hu (pv 6) (pv 3))) (pss_cons (ps_if (pt_cmpR op_ge (pe_callB call_len_seq (by rfl) T.z_len PySem.boot_len (pa_cons (pv 2) pa_nil)) (pv 1) (nomark _)) (pss_one (ps_raiseO rfl e_TooMany (L2.takes_of rfl rfl rfl rfl))) pss_nil)
              (pss_cons (ps_dput hu (pv 3) (pv 6) pe_bl rfl)
              (pss_one (ps_expr (pe_bm PySem.F.plainAttrs_list PySem.F.slot_list_append PySem.F.type_list_append mt_append (pv 2) (pa_cons (pe_tup (pa_cons (pv 6) (pa_cons (pv 4) (pa_cons (pv 5) pa_nil)))) pa_nil)))))) pss_nil))))
          (pss_one (ps_aug (i := 4) sc_reached.nd rfl (by first | exact Or.inl rfl | exact Or.inr rfl) pe_int iop_add))))
        (pss_one (ps_ret (pv 2))))))), ?_⟩
    walk_at "rd"
    have hR2 : 2 ^ l.ins.length ≤ 64 := by
      have := ((fair_iff l).mp hg.fair).1
      exact Nat.pow_le_pow_right (by decide) this
    have hins6 := ((fair_iff l).mp hg.fair).1
    obtain ⟨B, hB1, hBm, hBmx⟩ : ∃ B : Nat, 1 ≤ B ∧ (∀ n : Nat, ((n : Int) ≤ most ∨ n ≤ 1) ↔ n ≤ B) ∧ B ≤ 1000000 := by
      refine ⟨max 1 most.toNat, by omega, fun n => by omega, by omega⟩
    refine ⟨1, rfl, ?_⟩
    refine ⟨1, rfl, line_ge (by show 3 ≤ 1000000; decide), fun p0 np0 => ⟨line_ge (by show 1 ≤ 1000000; decide), fun p np => ?_⟩⟩
    have t1 := Same.new (o := .tup [.int 0, .int (-1), .int (-1)]) np0
    have t2 := Same.new (o := .lst [.ref p0]) np
    have hp0 := t2 _ _ (upd_same (H := H) (a := p0) (o := .tup [.int 0, .int (-1), .int (-1)]))
    have hp1 := upd_same (H := upd H p0 (.tup [.int 0, .int (-1), .int (-1)])) (a := p) (o := .lst [.ref p0])
    have np' : H p = none := t1.free np
    have s02 := t1.trans t2
    show tDisp _ _ (upd (upd H p0 (.tup [.int 0, .int (-1), .int (-1)])) p (.lst [.ref p0])) _
    generalize upd (upd H p0 (.tup [.int 0, .int (-1), .int (-1)])) p (.lst [.ref p0]) = H2 at s02 hp0 hp1 ⊢
    intro ps nps
    refine ⟨upd_same, [(Sum.inl 0, .bl true)], rfl, by decide, ?_⟩
    have nps0 : H ps = none := s02.free nps
    have npp : p ≠ ps := ne_of_none hp1 nps
    have hpsv : upd (upd H2 ps (.dK [])) ps (.dK (mergeK [] [(Sum.inl 0, V.bl true)])) ps = some (.dK (seenD [0])) := upd_same
    have s03 : Same H (upd (upd H2 ps (.dK [])) ps (.dK (mergeK [] [(Sum.inl 0, V.bl true)]))) := Same.mut (Same.mut s02 nps0) nps0
    have hp3 : upd (upd H2 ps (.dK [])) ps (.dK (mergeK [] [(Sum.inl 0, V.bl true)])) p = some (.lst [.ref p0]) := by rw [upd_ne npp, upd_ne npp]; exact hp1
    have hp03 : upd (upd H2 ps (.dK [])) ps (.dK (mergeK [] [(Sum.inl 0, V.bl true)])) p0 = some (.tup [.int 0, .int (-1), .int (-1)]) := by
      have h : p0 ≠ ps := ne_of_none hp0 nps
      rw [upd_ne h, upd_ne h]; exact hp0
    show tWhile _ _ _ _ (upd (upd H2 ps (.dK [])) ps (.dK (mergeK [] [(Sum.inl 0, V.bl true)])))
    generalize upd (upd H2 ps (.dK [])) ps (.dK (mergeK [] [(Sum.inl 0, V.bl true)])) = H3 at hpsv s03 hp3 hp03 ⊢
    refine ⟨fun m σ H' => ∃ (a : Nat) (v5 v6 : Option V) (ws : List V), σ = [some v, some (.int most), some (.ref p), some (.ref ps), some (.int (a : Nat)), v5, v6] ∧ m + a = B ∧ Same H H' ∧ H' p = some (.lst ws) ∧ Two (IsEnt H') ws (levL l a) ∧ H' ps = some (.dK (seenD (stsL (levL l a)))) ∧ (levL l a).length ≤ B ∧ a ≤ (levL l a).length ∧ (∀ b, b < a → b < (levL l b).length),
      ⟨B, 0, none, none, [.ref p0], rfl, rfl, s03, hp3, .one ⟨p0, rfl, hp03⟩, hpsv, hB1, Nat.zero_le _, fun b hb => by omega⟩, ?_⟩
    rintro m σ H4 ⟨a, v5, v6, ws, rfl, hma, s04, hp4, hw4, hs4, hlB, hal, hrun⟩
    walk_at "rd"
    have hwl4 := hw4.length
    refine ⟨_, .inl (SqL.of hp4), ?_⟩
    rw [hwl4]
    by_cases hlt : a < (levL l a).length
    case neg =>
      rw [decide_eq_false (by omega)]
      have hd : Done (stepS l) (2 ^ l.ins.length) a := ⟨by have : (levL l a).length = (lev (stepS l) (2 ^ l.ins.length) a).length := rfl; omega, hrun⟩
      exact iteF (k a hd ((hBm a).mpr (by omega)) H4 p ws s04 np' hp4 hw4)
    rw [decide_eq_true (by omega)]
    refine iteT ⟨fun σ' H' => ∃ m', m' < m ∧ ∃ (a : Nat) (v5 v6 : Option V) (ws : List V), σ' = [some v, some (.int most), some (.ref p), some (.ref ps), some (.int (a : Nat)), v5, v6] ∧ m' + a = B ∧ Same H H' ∧ H' p = some (.lst ws) ∧ Two (IsEnt H') ws (levL l a) ∧ H' ps = some (.dK (seenD (stsL (levL l a)))) ∧ (levL l a).length ≤ B ∧ a ≤ (levL l a).length ∧ (∀ b, b < a → b < (levL l b).length), fun σ' H' ⟨m', h1, a, v5, v6, ws, e, h2, h3, h4, h5, h6, h7, h8, h9⟩ => ⟨m', h1, a, v5, v6, e, h2, h3, ws, h4, h5, h6, h7, h8, h9⟩, ?_⟩
    refine ⟨_, rfl, v, l, rfl, hL.mono (Same.imm s04), by omega, ?_⟩
    show ∃ j : Int, [V.int ((2 ^ l.ins.length : Nat) : Int)] = [.int j] ∧ -(2 ^ 62) ≤ j ∧ j < 2 ^ 62 ∧ _
    have hRi : ((2 ^ l.ins.length : Nat) : Int) ≤ 64 := by exact_mod_cast hR2
    have hRn : (0 : Int) ≤ ((2 ^ l.ins.length : Nat) : Int) := Int.natCast_nonneg _
    refine ⟨_, rfl, by omega, by omega, ?_⟩
    rw [show (((2 ^ l.ins.length : Nat) : Int)).toNat = 2 ^ l.ins.length from rfl]
    have hlev : levL l (a + 1) = goRow (stepS l) (levL l a) a (2 ^ l.ins.length) := by
      show lev _ _ (a + 1) = _
      rw [lev]
      exact if_pos hlt
    refine for_range (lo := 0) (n := 2 ^ l.ins.length) (fun r σ H' => ∃ (v5 v6 : Option V) (ws : List V), σ = [some v, some (.int most), some (.ref p), some (.ref ps), some (.int (a : Nat)), v5, v6] ∧ Same H H' ∧ H' p = some (.lst ws) ∧ Two (IsEnt H') ws (goRow (stepS l) (levL l a) a r) ∧ H' ps = some (.dK (seenD (stsL (goRow (stepS l) (levL l a) a r)))) ∧ (goRow (stepS l) (levL l a) a r).length ≤ B) ⟨v5, v6, ws, rfl, s04, hp4, hw4, hs4, hlB⟩ ?_ ?_
    · rintro r σ H5 hr ⟨v5', v6', ws5, rfl, s05, hp5, hw5, hs5, hlB5⟩
      have hpre := goRow_pre (S := stepS l) (levL l a) a r
      have hwl5 := hw5.length
      have hle5 := hpre.length_le
      obtain ⟨wv, hwv⟩ : ∃ wv, ws5[a]? = some wv := ⟨_, List.getElem?_eq_getElem (by omega)⟩
      obtain ⟨e, he, te, rfl, hte⟩ := hw5.at hwv
      have hgood : GoodS l e.1 := by
        rw [pre_get hpre hlt] at he
        exact levL_good hg a _ (List.mem_map.mpr ⟨e, List.mem_of_getElem? he, rfl⟩)
      have hst : stAt (goRow (stepS l) (levL l a) a r) a = e.1 := by
        unfold stAt
        rw [List.getD_eq_getElem?_getD, he]
        rfl
      obtain ⟨kw, kf, kc, hks⟩ := hgood
      have hnext : stepS l e.1 r = stateL l.rs (nextK l kw r) (writ l.rs) := by
        unfold stepS
        rw [hks, kAt_state hg kf kc]
      have hlen1 : (goRow (stepS l) (levL l a) a (r + 1)).length ≤ (levL l (a + 1)).length := by
        rw [hlev]
        exact (goRow_mono _ _ (by omega)).length_le
      rw [goRow_succ] at hlen1 ⊢
      unfold grow at hlen1 ⊢
      rw [hst] at hlen1 ⊢
      generalize hfs : goRow (stepS l) (levL l a) a r = fs at hw5 hs5 hlB5 hwl5 hle5 hpre hlen1 ⊢
      walk_at "rd"
      rw [Int.zero_add]
      refine ⟨p, _, _, .ref te, rfl, rfl, SqL.of hp5, atI_nat hwv, te, _, 0, .int (e.1 : Nat), rfl, rfl, SqT.of hte, atI_int (by decide) rfl, v, l, _, _, rfl, hL.mono (Same.imm s05), hg, .inr ⟨kw, kf, kc, by rw [hks], .inl ⟨r, rfl, hr, fun H6 rt s6 hrt => ?_⟩⟩⟩
      refine ⟨rt, _, 0, _, rfl, rfl, SqT.of hrt, atI_int (by decide) rfl, ?_⟩
      have s06 := s05.trans s6
      have hp6 := s6 _ _ hp5
      have hs6 := s6 _ _ hs5
      have hw6 : Two (IsEnt H6) ws5 fs := hw5.mono fun _ _ h => h.mono (T := fun _ => False) (Same.imm s6)
      rw [← hnext]
      generalize stepS l e.1 r = s' at hlen1 ⊢
      refine ⟨_, rfl, _, rfl, ps, _, rfl, DGet.k (k := .inl (s' : Int)) hs6, _, rfl, ?_⟩
      rw [seenD_in]
      by_cases hm : s' ∈ stsL fs
      · rw [decide_eq_true hm, if_pos hm]
        exact iteF ⟨_, _, ⟨rfl, rfl⟩, s06, ws5, hp6, hw6, hs6, hlB5⟩
      · rw [decide_eq_false hm, if_neg hm]
        rw [if_neg hm, List.length_append] at hlen1
        have hfp : 0 < fs.length := by omega
        refine iteT ⟨_, .inl (SqL.of hp6), ?_⟩
        rw [hwl5]
        by_cases hmo : most ≤ (fs.length : Int)
        · rw [decide_eq_true hmo]
          refine iteT (kx (a + 1) ?_ ?_ H6 s06)
          · simp at hlen1
            omega
          · simp at hlen1
            omega
        · rw [decide_eq_false hmo]
          have hlB6 : (fs ++ [(s', (a : Int), (r : Int))]).length ≤ B := by
            have := (hBm (fs.length + 1)).mp (.inl (by push_cast; omega))
            rw [List.length_append]
            exact this
          refine iteF ⟨_, rfl, _, rfl, ps, _, rfl, DPut.k (k := .inl (s' : Int)) hs6 (by unfold seenD stsL; rw [List.length_map, List.length_map, sizeLine_eq]; omega), ?_⟩
          rw [seenD_put hm]
          have s07 := Same.mut (o := .dK (seenD (stsL fs ++ [s']))) s06 nps0
          have hs7 := upd_same (H := H6) (a := ps) (o := .dK (seenD (stsL fs ++ [s'])))
          have hp7 : upd H6 ps (.dK (seenD (stsL fs ++ [s']))) p = _ := (upd_ne npp).trans hp6
          have im7 : Imm (fun _ => False) H6 (upd H6 ps (.dK (seenD (stsL fs ++ [s'])))) := Imm.mut hs6 id
          have hw7 : Two (IsEnt (upd H6 ps (.dK (seenD (stsL fs ++ [s']))))) ws5 fs := hw6.mono fun _ _ h => h.mono im7
          generalize upd H6 ps (.dK (seenD (stsL fs ++ [s']))) = H7 at s07 hs7 hp7 hw7 ⊢
          walk_at "rd"
          unfold tBM
          walk_at "rd"
          refine ⟨.inl ⟨rfl, _, SqL.of hp7⟩, line_ge (by decide), fun tn ntn => ?_⟩
          have u8 := Same.new (o := .tup [.int (s' : Nat), .int (a : Nat), .int (r : Nat)]) ntn
          have hp8 := u8 _ _ hp7
          have im8 : Imm (fun _ => False) (upd H7 tn (.tup [.int (s' : Nat), .int (a : Nat), .int (r : Nat)])) (upd (upd H7 tn (.tup [.int (s' : Nat), .int (a : Nat), .int (r : Nat)])) p (.lst (ws5 ++ [.ref tn]))) := Imm.mut hp8 id
          refine ⟨p, _, _, rfl, rfl, hp8, by rw [sizeLine_eq]; omega, _, _, ⟨rfl, rfl⟩, Same.mut (s07.trans u8) np', _, upd_same, ?_, ?_, hlB6⟩
          · exact (hw7.mono fun _ _ h => (h.mono (T := fun _ => False) (Same.imm u8)).mono im8).app (.one ⟨tn, rfl, im8 _ _ upd_same trivial⟩)
          · rw [upd_ne npp.symm]
            have := u8 _ _ hs7
            rw [this]
            unfold stsL
            rw [List.map_append]
            rfl
    rintro σ H5 ⟨v5', v6', ws5, rfl, s05, hp5, hw5, hs5, hlB5⟩
    rw [← hlev] at hw5 hs5 hlB5
    walk_at "rd"
    refine ⟨m - 1, by omega, a + 1, v5', v6', ⟨by omega, rfl, rfl⟩, by omega, s05, ws5, hp5, hw5, hs5, hlB5, ?_, fun b hb => ?_⟩
    · have := (lev_step (S := stepS l) (R := 2 ^ l.ins.length) a).length_le
      have h2 : (levL l a).length ≤ (levL l (a + 1)).length := this
      omega
    · rcases Nat.lt_or_ge b a with z | z
      · exact hrun b z
      · rw [show b = a by omega]
        exact hlt
def spRunTo : Sp := fun vs H Q _ => ∃ (p : Addr) (ws : List V) (fs : List Ent) (m R : Nat) (S : Nat → Nat → Nat) (place : Nat), vs = [.ref p, .int (place : Nat)] ∧ H p = some (.lst ws) ∧ Two (IsEnt H) ws fs ∧ Found R S fs m ∧ place < fs.length ∧ fs.length ≤ 1000000 ∧
  ∀ (H' : Hp) (q : Addr), Same H H' → H q = none → H' q = some (.lst ((path fs place).map fun n : Nat => V.int n)) → Q (.ref q) H'
theorem ok_run_to (T : TReach K mg cs cc xc cw) : FnAt P w K mg base CX0 "run_to" 1 ["found", "place"] spRunTo := by
  refine fnAt_ok T.d_run_to sc_run_to (fun vs H Q E h => ?_) (fun f cdv A outer st H vs Q E hr h => ?_)
  · obtain ⟨p, ws, fs, m, R, S, place, rfl, _⟩ := h; rfl
  · obtain ⟨p, ws, fs, m, R, S, place, rfl, hp, hw, hF, hpl, hlen, k⟩ := h
    have hu := hu_of hr
    refine ⟨_, (pss_cons (ps_set (i := 2) sc_run_to.nd rfl (by first | exact Or.inl rfl | exact Or.inr rfl) (pe_lst pa_nil))
        (pss_cons (ps_while PassesOwn.never (pt_cmpR op_gt (pv 1) pe_int (nomark _)) (pss_cons (ps_asg (pe_ix ix_list (pv 0) (pv 1) (fun _ _ => rfl)) (pg_tup rfl (pgs_cons (pg_name (i := 3) sc_run_to.nd rfl (by first | exact Or.inl rfl | exact Or.inr rfl)) (pgs_cons (pg_name (i := 4) sc_run_to.nd rfl (by first | exact Or.inl rfl | exact Or.inr rfl)) (pgs_cons (pg_name (i := 5) sc_run_to.nd rfl (by first | exact Or.inl rfl | exact Or.inr rfl)) pgs_nil)))))
          (pss_cons (ps_expr (pe_bm PySem.F.plainAttrs_list PySem.F.slot_list_append PySem.F.type_list_append mt_append (pv 2) (pa_cons (pv 5) pa_nil)))
          (pss_one (ps_set (i := 1) sc_run_to.nd rfl (by first | exact Or.inl rfl | exact Or.inr rfl) (pv 4))))))
        (pss_cons (ps_expr (pe_bm0 PySem.F.plainAttrs_list PySem.F.slot_list_reverse PySem.F.type_list_reverse mt_reverse (pv 2)))
        (pss_one (ps_ret (pv 2)))))), ?_⟩
    walk_at "rd"
    refine ⟨Nat.zero_le _, fun q nq => ?_⟩
    have s1 := Same.new (o := .lst []) nq
    have hq1 := upd_same (H := H) (a := q) (o := .lst [])
    show tWhile _ _ _ _ (upd H q (.lst []))
    generalize upd H q (.lst []) = H1 at s1 hq1 ⊢
    refine ⟨fun n σ H' => ∃ (cur : Nat) (v3 v4 v5 : Option V) (w : List Nat), σ = [some (.ref p), some (.int (cur : Nat)), some (.ref q), v3, v4, v5] ∧ n = cur ∧ Same H H' ∧ H' q = some (.lst (w.map fun n : Nat => V.int n)) ∧ cur < fs.length ∧ cur + w.length ≤ place ∧ path fs place = path fs cur ++ w.reverse, ⟨place, place, none, none, none, [], rfl, rfl, s1, hq1, hpl, by simp, by simp⟩, ?_⟩
    rintro n σ H2 ⟨cur, v3, v4, v5, w, rfl, rfl, s2, hq2, hcl, hcw, hpath⟩
    walk_at "rd"
    have hwl := hw.length
    by_cases h0 : 0 < n
    · rw [decide_eq_true (by omega)]
      obtain ⟨wv, hwv⟩ : ∃ wv, ws[n]? = some wv := ⟨_, List.getElem?_eq_getElem (by omega)⟩
      obtain ⟨e, he, te, rfl, hte⟩ := hw.at hwv
      obtain ⟨a, r, ha, hr', hee⟩ := hF.at_ hcl h0
      rw [he] at hee
      cases hee
      have hps := path_step hF hcl h0 ha he
      refine iteT ⟨fun σ' H' => ∃ m', m' < n ∧ ∃ (cur : Nat) (v3 v4 v5 : Option V) (w : List Nat), σ' = [some (.ref p), some (.int (cur : Nat)), some (.ref q), v3, v4, v5] ∧ m' = cur ∧ Same H H' ∧ H' q = some (.lst (w.map fun n : Nat => V.int n)) ∧ cur < fs.length ∧ cur + w.length ≤ place ∧ path fs place = path fs cur ++ w.reverse, fun σ' H' ⟨m', h1, cur, v3, v4, v5, w, e, h2, h3, h4, h5, h6, h7⟩ => ⟨m', h1, cur, v3, v4, v5, e, h2, h3, w, h4, h5, h6, h7⟩, ?_⟩
      refine ⟨p, _, _, .ref te, rfl, rfl, SqL.of (s2 _ _ hp), atI_nat hwv, te, _, rfl, SqT.of (s2 _ _ hte), rfl, ?_⟩
      walk_at "rd"
      unfold tBM
      walk_at "rd"
      refine ⟨.inl ⟨rfl, _, SqL.of hq2⟩, q, _, _, rfl, rfl, hq2, by rw [List.length_map, sizeLine_eq]; omega, a, ha, a, _, _, _, ⟨rfl, rfl, rfl, rfl⟩, rfl, Same.mut s2 nq, w ++ [r], by rw [upd_same, List.map_append]; rfl, by omega, by rw [List.length_append]; simp; omega, ?_⟩
      rw [hpath, hps, List.reverse_append]
      simp
    · rw [decide_eq_false (by omega)]
      have hn0 : n = 0 := by omega
      subst hn0
      refine iteF ?_
      unfold tBM0
      walk_at "rd"
      refine ⟨.inl ⟨rfl, _, SqL.of hq2⟩, q, _, rfl, rfl, hq2, k _ q (Same.mut s2 nq) nq ?_⟩
      rw [upd_same, hpath, path_zero, List.nil_append, List.map_reverse]
end

--%% NL
/-! ## the ends told by name -/
abbrev s__law_ends : Stmt := top 75
theorem sc__law_ends : FnScope ["_law_rungs", "_law_found", "_law_tree_here", "_law_end_here"] ["_law_rungs"] (defScope s__law_ends) := ⟨rfl, rfl, rfl, by decide +kernel, rfl, by decide +kernel, by decide +kernel⟩
structure TLEnds (K : PySem.W.Frag) (mg : Str → Option Value) : Prop where
  d_ends : DefAt K mg "_law_ends" s__law_ends ["_law_rungs"]
  z_int : mg "int" = none
def ToldOk (rs : List Rg) (n s : Str) (m : Int) : Prop := match getL (ctE rs) n with
  | none => s = ""
  | some e => s = e.k.kind ∧ m = e.m
structure EndsT (H : Hp) (rs : List Rg) (kvs : List (Str × V)) : Prop where
  keys : keysL kvs = writ rs
  told : ∀ n ∈ writ rs, ∃ t s m, getL kvs n = some (.ref t) ∧ H t = some (.tup [.str s, .int m]) ∧ ToldOk rs n s m
theorem EndsT.mono {T : Addr → Prop} {H H' : Hp} {rs : List Rg} {kvs : List (Str × V)} (k : Imm T H H') (h : EndsT H rs kvs) : EndsT H' rs kvs := ⟨h.keys, fun n hn => let ⟨t, s, m, h1, h2, h3⟩ := h.told n hn; ⟨t, s, m, h1, k _ _ h2 trivial, h3⟩⟩
theorem Ek.counts_kind (k : Ek) : decide (k.kind ∈ (["timer", "counter"] : List Str)) = k.counts := by cases k <;> decide +kernel
theorem Ek.counts_in (k : Ek) : inV (.str k.kind) [.str "timer", .str "counter"] = k.counts := by
  rw [show [V.str "timer", V.str "counter"] = (["timer", "counter"] : List Str).map V.str from rfl, inV_strs, Ek.counts_kind]
theorem ToldOk.self {rs : List Rg} {r : Rg} : ToldOk (rs ++ [r]) r.e.n (if r.e.k.counts = true then r.e.k.kind else "") r.e.m ∨ r.e.k.counts = false := by
  cases h : r.e.k.counts with
  | false => exact .inr rfl
  | true =>
    refine .inl ?_
    unfold ToldOk
    rw [ctE_snoc, if_pos h, getL_put, if_pos rfl, if_pos rfl]
    exact ⟨rfl, rfl⟩
theorem ToldOk.other {rs : List Rg} {r : Rg} {n s : Str} {m : Int} (h : ToldOk rs n s m) (hc : n = r.e.n → r.e.k.counts = false) : ToldOk (rs ++ [r]) n s m := by
  have e : getL (ctE (rs ++ [r])) n = getL (ctE rs) n := by
    rw [ctE_snoc]
    by_cases hk : r.e.k.counts = true
    · rw [if_pos hk, getL_put, if_neg fun e => by rw [hc e] at hk; cases hk]
    · rw [if_neg hk]
  unfold ToldOk
  rw [e]
  exact h
theorem dL_in {α : Type} {f : α → V} {l : List (Str × α)} {n : Str} : (valV (dL f l) (Sum.inr n : Key)).isSome = decide (n ∈ keysL l) := by
  rw [dL_get]
  by_cases h : n ∈ keysL l
  · obtain ⟨v, hv⟩ := getL_mem.mpr h
    rw [hv, decide_eq_true h]
    rfl
  · rw [getL_none.mpr h, decide_eq_false h]
    rfl
section
variable {P : Program} {w : World} {K : PySem.W.Frag} {mg : Str → Option Value} {base : Heap}
def spEnds : Sp := fun vs H Q _ => ∃ (p : Addr) (ws : List V) (rs : List Rg), vs = [.ref p] ∧ H p = some (.lst ws) ∧ Two (IsRT H) ws rs ∧ rs.length ≤ 30 ∧ ∀ (H' : Hp) (d : Addr) (kvs : List (Str × V)), Same H H' → H d = none → H' d = some (.dK (dL id kvs)) → EndsT H' rs kvs → Q (.ref d) H'
theorem ok_ends (T : TLEnds K mg) : FnAt P w K mg base CX0 "_law_ends" 1 ["_law_rungs"] spEnds := by
  refine fnAt_ok T.d_ends sc__law_ends (fun vs H Q E h => ?_) (fun f cdv A outer s H vs Q E hr h => ?_)
  · obtain ⟨p, ws, rs, rfl, _⟩ := h; rfl
  · obtain ⟨p, ws, rs, rfl, hp, htw, hl, k⟩ := h
    have hu := hu_of hr
    have hlen := htw.length
    refine ⟨_, (pss_cons (ps_set (i := 1) sc__law_ends.nd rfl (by first | exact Or.inl rfl | exact Or.inr rfl) pe_dnewK)
        (pss_cons (ps_for PassesOwn.never rfl (pi_list (pv 0)) (pg_tup rfl (pgs_cons (pg_name (i := 2) sc__law_ends.nd rfl (by first | exact Or.inl rfl | exact Or.inr rfl)) (pgs_cons (pg_name (i := 3) sc__law_ends.nd rfl (by first | exact Or.inl rfl | exact Or.inr rfl)) pgs_nil))) (pss_one (ps_ifG (PW.pt (pw_or (pt_cmp (pc_dnotin hu (pe_ix ix_tup (pv 3) pe_int (fun _ _ => rfl)) (pv 1))) (pw_or1 (pt_cmpR op_in_seq (pe_ix ix_tup (pv 3) pe_int (fun _ _ => rfl)) (pe_tup (pa_cons pe_str (pa_cons pe_str pa_nil))) rfl)))) (pss_one (ps_dput hu (pv 1) (pe_ix ix_tup (pv 3) pe_int (fun _ _ => rfl)) (pe_tup (pa_cons (pe_ix ix_list (pe_lst (pa_cons pe_str (pa_cons (pe_ix ix_tup (pv 3) pe_int (fun _ _ => rfl)) pa_nil))) (pe_callTy call_int1 (by rfl) T.z_int (show PySem.bootBuiltins "int" = some (.type "int") by decide +kernel) (pa_cons (pe_cmpR op_in_seq (pe_ix ix_tup (pv 3) pe_int (fun _ _ => rfl)) (pe_tup (pa_cons pe_str (pa_cons pe_str pa_nil))) rfl) pa_nil)) (fun _ _ => rfl)) (pa_cons (pe_ix ix_tup (pv 3) pe_int (fun _ _ => rfl)) pa_nil))) rfl)) pss_nil)))
        (pss_one (ps_ret (pv 1))))), ?_⟩
    walk_at "rd"
    intro d nd
    have s1 := Same.new (o := .dK []) nd
    have hd1 := upd_same (H := H) (a := d) (o := .dK [])
    show tFor _ _ _ _ [some (.ref p), some (.ref d), none, none] (upd H d (.dK []))
    generalize upd H d (.dK []) = H1 at s1 hd1 ⊢
    refine ⟨_, rfl, p, rfl, ⟨_, SqL.of (s1 _ _ hp)⟩, for_list (K := K) (a := p) (xs := ws) (fun i σ H' => ∃ (v2 v3 : Option V) (kvs : List (Str × V)), σ = [some (.ref p), some (.ref d), v2, v3] ∧ Same H H' ∧ H' d = some (.dK (dL id kvs)) ∧ EndsT H' (rs.take i) kvs) ⟨none, none, [], rfl, s1, hd1, rfl, fun n h => by cases h⟩ (fun i σ H' _ ⟨_, _, _, _, s, _⟩ => SqL.of (s _ _ hp)) ?_ ?_⟩
    · rintro i y σ H2 hy ⟨v2, v3, kvs, rfl, s2, hd2, hE⟩
      obtain ⟨r, hr', tp, te, xc', rfl, htp, hte, hxc⟩ := htw.at hy
      have hir := (List.getElem?_eq_some_iff.mp hr').1
      rw [List.take_succ, hr']
      walk_at "rd"
      refine ⟨tp, _, rfl, SqT.of (s2 _ _ htp), rfl, ?_⟩
      walk_at "rd"
      refine ⟨fun b H' => Same H2 H' ∧ b = (!decide (r.e.n ∈ keysL kvs) || r.e.k.counts), ?_, ?_⟩
      · walk_at "rd"
        refine ⟨_, rfl, te, _, 1, .str r.e.n, rfl, rfl, SqT.of (s2 _ _ hte), atI_int (by decide) rfl, _, rfl, d, _, rfl, DGet.k (k := .inr r.e.n) hd2, _, rfl, ?_⟩
        rw [dL_in]
        by_cases hm : r.e.n ∈ keysL kvs
        · rw [decide_eq_true hm]
          refine iteF ⟨te, _, 0, .str r.e.k.kind, rfl, rfl, SqT.of (s2 _ _ hte), atI_int (by decide) rfl, line_ge (by decide), fun q nq => ⟨q, _, rfl, .inr (SqT.of upd_same), rfl, rfl, _, rfl, Same.new nq, ?_⟩⟩
          rw [if_neg Bool.false_ne_true, Ek.counts_in]
          rfl
        · rw [decide_eq_false hm]
          exact iteT ⟨Same.refl _, rfl⟩
      rintro b H3 ⟨s3, rfl⟩
      have s23 := s2.trans s3
      have hd3 := s3 _ _ hd2
      have hE3 : EndsT H3 (rs.take i) kvs := hE.mono (T := fun _ => False) (Same.imm s3)
      have lk : kvs.length ≤ 30 := by
        have h1 := congrArg List.length hE.keys
        have h2 := writ_len (rs.take i)
        rw [len_keys] at h1
        rw [List.length_take] at h2
        omega
      cases hb : (!decide (r.e.n ∈ keysL kvs) || r.e.k.counts) with
      | false =>
        rw [Bool.or_eq_false_iff, Bool.not_eq_false', decide_eq_true_eq] at hb
        refine iteF ?_
        walk_at "rd"
        refine ⟨_, _, ⟨rfl, rfl⟩, s23, kvs, hd3, ?_, fun n hn => ?_⟩
        · show keysL kvs = writ (rs.take i ++ [r])
          rw [writ_snoc, addW, if_pos (by rw [← hE.keys]; exact hb.1)]
          exact hE.keys
        · have hn' : n ∈ writ (rs.take i) := by
            have hn2 : n ∈ writ (rs.take i ++ [r]) := hn
            rw [writ_snoc, addW, if_pos (by rw [← hE.keys]; exact hb.1)] at hn2
            exact hn2
          obtain ⟨t, s, m, h1, h2, h3⟩ := hE3.told n hn'
          exact ⟨t, s, m, h1, h2, h3.other fun _ => hb.2⟩
      | true =>
        refine iteT ?_
        walk_at "rd"
        have hteH : ∀ {H' : Hp}, Same H3 H' → SqT K H' te [.str r.e.k.kind, .str r.e.n, .int r.e.m] := fun s => SqT.of ((s23.trans s) _ _ hte)
        refine ⟨_, rfl, te, _, 0, .str r.e.k.kind, rfl, rfl, hteH (Same.refl _), atI_int (by decide) rfl, line_ge (by show 2 ≤ 1000000; decide), fun p1 n1 => ?_⟩
        have t1 := Same.new (o := .lst [.str "", .str r.e.k.kind]) n1
        refine ⟨_, rfl, te, _, 0, .str r.e.k.kind, rfl, rfl, hteH t1, atI_int (by decide) rfl, line_ge (by decide), fun q nq => ⟨q, _, rfl, .inr (SqT.of upd_same), rfl, rfl, ?_⟩⟩
        rw [if_neg Bool.false_ne_true, Ek.counts_in]
        have t2 := t1.trans (Same.new (o := .tup [.str "timer", .str "counter"]) nq)
        have hp1 := (Same.new (o := .tup [.str "timer", .str "counter"]) nq) _ _ (upd_same (H := H3) (a := p1) (o := .lst [.str "", .str r.e.k.kind]))
        have hat : atI [V.str "", .str r.e.k.kind] (if r.e.k.counts = true then 1 else 0) = some (.str (if r.e.k.counts = true then r.e.k.kind else "")) := by
          cases r.e.k.counts <;> rfl
        refine .inr ⟨_, rfl, p1, _, _, _, rfl, rfl, SqL.of hp1, hat, ?_⟩
        refine ⟨_, rfl, te, _, 2, .int r.e.m, rfl, rfl, hteH t2, atI_int (by decide) rfl, line_ge (by show 2 ≤ 1000000; decide), fun t nt => ?_⟩
        have t3 := t2.trans (Same.new (o := .tup [.str (if r.e.k.counts = true then r.e.k.kind else ""), .int r.e.m]) nt)
        have hd4 := t3 _ _ hd3
        have ht4 := upd_same (H := upd (upd H3 p1 (.lst [.str "", .str r.e.k.kind])) q (.tup [.str "timer", .str "counter"])) (a := t) (o := .tup [.str (if r.e.k.counts = true then r.e.k.kind else ""), .int r.e.m])
        generalize upd (upd (upd H3 p1 (.lst [.str "", .str r.e.k.kind])) q (.tup [.str "timer", .str "counter"])) t (.tup [.str (if r.e.k.counts = true then r.e.k.kind else ""), .int r.e.m]) = H4 at t3 hd4 ht4 ⊢
        refine ⟨_, rfl, _, rfl, te, _, 1, .str r.e.n, rfl, rfl, hteH t3, atI_int (by decide) rfl, d, _, rfl, DPut.k (k := .inr r.e.n) hd4 (by rw [dL_len, sizeLine_eq]; omega), ?_⟩
        have ep : putK (dL id kvs) (Sum.inr r.e.n : Key) (V.ref t) = dL id (putL kvs r.e.n (V.ref t)) := dL_put
        rw [ep]
        have im : Imm (fun _ => False) H4 (upd H4 d (.dK (dL id (putL kvs r.e.n (V.ref t))))) := Imm.mut hd4 id
        have hE4 : EndsT H4 (rs.take i) kvs := hE3.mono (T := fun _ => False) (Same.imm t3)
        refine ⟨_, _, rfl, Same.mut (s23.trans t3) nd, putL kvs r.e.n (V.ref t), upd_same, ?_, fun n hn => ?_⟩
        · show _ = writ (rs.take i ++ [r])
          rw [writ_snoc, addW]
          by_cases hm : r.e.n ∈ keysL kvs
          · rw [keys_put hm, if_pos (by rw [← hE.keys]; exact hm)]
            exact hE.keys
          · rw [keys_put_new hm, if_neg (by rw [← hE.keys]; exact hm), hE.keys]
        · have hn2 : n ∈ addW (writ (rs.take i)) r.e.n := by rw [← writ_snoc]; exact hn
          rw [getL_put]
          by_cases hnr : n = r.e.n
          · rw [if_pos hnr]
            refine ⟨t, _, _, rfl, im _ _ ht4 trivial, ?_⟩
            rw [hnr]
            show ToldOk (rs.take i ++ [r]) _ _ _
            rcases ToldOk.self (rs := rs.take i) (r := r) with h | h
            · exact h
            · rw [h, Bool.or_false, Bool.not_eq_true', decide_eq_false_iff_not, hE.keys] at hb
              unfold ToldOk
              have e : getL (ctE (rs.take i ++ [r])) r.e.n = none := by
                rw [ctE_snoc, if_neg (by rw [h]; decide)]
                cases he : getL (ctE (rs.take i)) r.e.n with
                | none => rfl
                | some e => exact absurd (ctE_writ he) hb
              rw [e, h]
              rfl
          · rw [if_neg hnr]
            obtain ⟨t', s', m', h1, h2, h3⟩ := hE4.told n ((addW_mem.mp hn2).resolve_right hnr)
            exact ⟨t', s', m', h1, im _ _ h2 trivial, h3.other fun z => absurd z hnr⟩
    rintro σ H2 ⟨v2, v3, kvs, rfl, s2, hd2, hE⟩
    rw [hlen, List.take_length] at hE
    walk_at "rd"
    exact k H2 d kvs s2 nd hd2 hE
end

--%% NM
/-! ## the number of what is kept, by the law -/
abbrev s__law_state : Stmt := top 79
theorem sc__law_state : FnScope ["_law_rungs", "_law_memory", "_law_number", "_law_at", "_law_name", "_law_told", "_law_bit", "_law_count", "_law_saw"] ["_law_rungs", "_law_memory"] (defScope s__law_state) := ⟨rfl, rfl, rfl, by decide +kernel, rfl, by decide +kernel, by decide +kernel⟩
structure TLState (K : PySem.W.Frag) (mg : Str → Option Value) : Prop where
  ends : TLEnds K mg
  d_state : DefAt K mg "_law_state" s__law_state ["_law_rungs", "_law_memory"]
  z_len : mg "len" = none
  z_int : mg "int" = none
/-- a memory: by names a bit, a count, what was seen -/
abbrev Mem := List (Str × (Bool × Int × Bool))
structure MemD (H : Hp) (kvs : List (Str × V)) (mem : Mem) : Prop where
  keys : keysL kvs = keysL mem
  at_ : ∀ n m, getL mem n = some m → ∃ t, getL kvs n = some (.ref t) ∧ H t = some (.tup [.bl m.1, .int m.2.1, .bl m.2.2])
theorem MemD.mono {T : Addr → Prop} {H H' : Hp} {kvs : List (Str × V)} {mem : Mem} (k : Imm T H H') (h : MemD H kvs mem) : MemD H' kvs mem := ⟨h.keys, fun n m e => let ⟨t, h1, h2⟩ := h.at_ n m e; ⟨t, h1, k _ _ h2 trivial⟩⟩
theorem MemD.put {H : Hp} {kvs : List (Str × V)} {mem : Mem} {n : Str} {t : Addr} {m : Bool × Int × Bool} (h : MemD H kvs mem) (ht : H t = some (.tup [.bl m.1, .int m.2.1, .bl m.2.2])) : MemD H (putL kvs n (.ref t)) (putL mem n m) := by
  refine ⟨?_, fun x y e => ?_⟩
  · by_cases hn : n ∈ keysL kvs
    · rw [keys_put hn, keys_put (by rw [← h.keys]; exact hn), h.keys]
    · rw [keys_put_new hn, keys_put_new (by rw [← h.keys]; exact hn), h.keys]
  · rw [getL_put] at e ⊢
    by_cases hx : x = n
    · rw [if_pos hx] at e ⊢
      cases e
      exact ⟨t, rfl, ht⟩
    · rw [if_neg hx] at e ⊢
      exact h.at_ x y e
theorem item_at {α : Type} {f : α → V} {l : List (Str × α)} {i : Nat} {y z : V} (hy : ((dL f l)[i]?.map fun kv => kV kv.1) = some y) (hz : ((dL f l)[i]?.map Prod.snd) = some z) : ∃ n v, l[i]? = some (n, v) ∧ y = .str n ∧ z = f v := by
  unfold dL at hy hz
  rw [List.getElem?_map, Option.map_map] at hy hz
  obtain ⟨⟨n, v⟩, h1, rfl⟩ := Option.map_eq_some_iff.mp hy
  rw [h1] at hz
  cases hz
  exact ⟨n, v, h1, rfl, rfl⟩
theorem getL_cons {α : Type} {p : Str × α} {l : List (Str × α)} {n : Str} : getL (p :: l) n = if p.1 = n then some p.2 else getL l n := by
  unfold getL
  by_cases hz : p.1 = n
  · rw [List.find?_cons_of_pos (by simpa using hz), if_pos hz]; rfl
  · rw [List.find?_cons_of_neg (by simpa using hz), if_neg hz]
theorem getL_at {α : Type} : ∀ {l : List (Str × α)} {i : Nat} {n : Str} {v : α}, (keysL l).Nodup → l[i]? = some (n, v) → getL l n = some v
  | p :: l, 0, n, v, _, h => by
    cases h
    rw [getL_cons, if_pos rfl]
  | p :: l, i + 1, n, v, hn, h => by
    obtain ⟨n1, n2⟩ := List.nodup_cons.mp (show (p.1 :: keysL l).Nodup from hn)
    have h' : l[i]? = some (n, v) := h
    rw [getL_cons, if_neg, getL_at n2 h']
    intro e
    exact n1 (by rw [e]; exact List.mem_map.mpr ⟨(n, v), List.mem_of_getElem? h', rfl⟩)
theorem keys_at {α : Type} {l : List (Str × α)} {i : Nat} {n : Str} {v : α} (h : l[i]? = some (n, v)) : (keysL l)[i]? = some n := by
  unfold keysL
  rw [List.getElem?_map, h]
  rfl
theorem take_new {ns : List Str} {i : Nat} {n : Str} (hn : ns.Nodup) (h : ns[i]? = some n) : n ∉ ns.take i := fun hk => by
  obtain ⟨hi, hg⟩ := List.getElem?_eq_some_iff.mp h
  rw [← List.take_append_drop i ns, List.nodup_append] at hn
  exact hn.2.2 n hk n (by rw [List.drop_eq_getElem_cons hi, hg]; exact List.mem_cons_self) rfl
theorem EndsT.mut {H : Hp} {rs : List Rg} {kvs : List (Str × V)} {d : Addr} {o o' : HO} (hE : EndsT H rs kvs) (hq : H d = some o) (hn : ∀ ws, o ≠ .tup ws) : EndsT (upd H d o') rs kvs := ⟨hE.keys, fun n hn' => let ⟨t, s, m, h1, h2, h3⟩ := hE.told n hn'; ⟨t, s, m, h1, by rw [upd_ne (fun e => by rw [e, hq] at h2; cases h2; exact hn _ rfl)]; exact h2, h3⟩⟩
theorem MemD.mut {H : Hp} {mem : Mem} {kvs : List (Str × V)} {d : Addr} {o o' : HO} (hE : MemD H kvs mem) (hq : H d = some o) (hn : ∀ ws, o ≠ .tup ws) : MemD (upd H d o') kvs mem := ⟨hE.keys, fun n m e => let ⟨t, h1, h2⟩ := hE.at_ n m e; ⟨t, h1, by rw [upd_ne (fun e => by rw [e, hq] at h2; cases h2; exact hn _ rfl)]; exact h2⟩⟩
theorem kind_empty (k : Ek) (h : k.counts = true) : k.kind ≠ "" := by
  cases k with
  | coil => cases h
  | latch => cases h
  | unlatch => cases h
  | timer => decide +kernel
  | counter => decide +kernel
theorem kind_counter (k : Ek) (h : k.counts = true) : decide (k.kind = "counter") = decide (k = .counter) := by
  cases k with
  | coil => cases h
  | latch => cases h
  | unlatch => cases h
  | timer => decide +kernel
  | counter => decide +kernel
def MemOk (rs : List Rg) (n : Str) (m : Bool × Int × Bool) : Prop := match getL (ctE rs) n with
  | none => m.2.1 = 0 ∧ m.2.2 = false
  | some e => 0 ≤ m.2.1 ∧ m.2.1 ≤ e.m ∧ m.1 = decide (m.2.1 = e.m) ∧ (m.2.2 = true → e.k = .counter)
section
variable {P : Program} {w : World} {K : PySem.W.Frag} {mg : Str → Option Value} {base : Heap}
/-- what is kept, by a memory -/
def kOf (rs : List Rg) (mem : Mem) : Ws := ⟨mem.map fun p => (p.1, p.2.1), (keysL (cnt0 rs)).map fun n => (n, ((getL mem n).getD (false, 0, false)).2.1), (keysL (seen0 rs)).map fun n => (n, ((getL mem n).getD (false, 0, false)).2.2)⟩
theorem getL_mapv {α β : Type} (g : α → β) (n : Str) : ∀ l : List (Str × α), getL (l.map fun p => (p.1, g p.2)) n = (getL l n).map g
  | [] => rfl
  | p :: l => by
    rw [List.map_cons, getL_cons, getL_cons, getL_mapv g n l]
    by_cases h : p.1 = n
    · rw [if_pos h, if_pos h]; rfl
    · rw [if_neg h, if_neg h]
theorem kOf_fits {l : Lad} {mem : Mem} (hk : keysL mem = writ l.rs) : KFits l (kOf l.rs mem) := ⟨by
  show keysL (mem.map fun p => (p.1, p.2.1)) = _
  rw [← hk]
  simp [keysL, Function.comp_def], keys_map _ _, keys_map _ _⟩
section
variable {rs : List Rg} {mem : Mem} {n : Str} {m : Bool × Int × Bool}
theorem kOf_bit (h : getL mem n = some m) : (kOf rs mem).bitOf n = m.1 := by
  show (getL (mem.map fun p => (p.1, p.2.1)) n).getD false = _
  have := getL_mapv (fun x : Bool × Int × Bool => x.1) n mem
  rw [this, h]
  rfl
theorem kOf_cnt (h : getL mem n = some m) (ok : MemOk rs n m) : (kOf rs mem).cntOf n = m.2.1 := by
  show (getL ((keysL (cnt0 rs)).map fun n => (n, ((getL mem n).getD (false, 0, false)).2.1)) n).getD 0 = _
  rw [getL_map]
  by_cases hn : n ∈ keysL (cnt0 rs)
  · rw [if_pos hn, h]
    rfl
  · rw [if_neg hn]
    unfold MemOk at ok
    rw [getL_none.mpr (by rw [ctE_keys0 n]; exact hn)] at ok
    exact ok.1.symm
theorem kOf_seen (hf : crowd rs = false) (h : getL mem n = some m) (ok : MemOk rs n m) : (kOf rs mem).seenOf n = m.2.2 := by
  show (getL ((keysL (seen0 rs)).map fun n => (n, ((getL mem n).getD (false, 0, false)).2.2)) n).getD false = _
  rw [getL_map]
  by_cases hn : n ∈ keysL (seen0 rs)
  · rw [if_pos hn, h]
    rfl
  · rw [if_neg hn]
    unfold MemOk at ok
    cases he : getL (ctE rs) n with
    | none =>
      rw [he] at ok
      exact ok.2.symm
    | some e =>
      rw [he] at ok
      cases hs : m.2.2 with
      | false => rfl
      | true => exact absurd ((seen0_counter hf he).mpr (ok.2.2.2 hs)) hn
theorem kOf_cnted (hk : keysL mem = writ rs) (ok : ∀ n m, getL mem n = some m → MemOk rs n m) : Cnted rs (kOf rs mem) := fun n e he => by
  obtain ⟨m, hm⟩ := getL_mem.mpr (show n ∈ keysL mem by rw [hk]; exact ctE_writ he)
  have o := ok n m hm
  rw [kOf_cnt hm o, kOf_bit hm]
  unfold MemOk at o
  rw [he] at o
  exact ⟨o.1, o.2.1, o.2.2.1⟩
end
/-- the memory of what is kept -/
def memOf (ns : List Str) (k : Ws) : Mem := ns.map fun n => (n, (k.bitOf n, k.cntOf n, k.seenOf n))
theorem memOf_keys (ns : List Str) (k : Ws) : keysL (memOf ns k) = ns := keys_map _ _
theorem memOf_kOf {rs : List Rg} {mem : Mem} (hf : crowd rs = false) (hk : keysL mem = writ rs) (ok : ∀ n m, getL mem n = some m → MemOk rs n m) : memOf (writ rs) (kOf rs mem) = mem := by
  refine list_ext (by rw [memOf_keys, hk]) (by rw [memOf_keys]; exact writ_nodup _) fun n => ?_
  unfold memOf
  rw [getL_map]
  by_cases hn : n ∈ writ rs
  · obtain ⟨m, hm⟩ := getL_mem.mpr (show n ∈ keysL mem by rw [hk]; exact hn)
    rw [if_pos hn, hm, kOf_bit hm, kOf_cnt hm (ok n m hm), kOf_seen hf hm (ok n m hm)]
  · rw [if_neg hn, getL_none.mpr (by rw [hk]; exact hn)]
theorem num_step {s w m : Nat} {x : Int} (hx : x = (m : Int)) (hw : w ≤ 1000) (hm : m < 64) : CPow x (w : Int) ∧ (s : Int) + x * 2 ^ (w : Int).toNat = ((s + m * 2 ^ w : Nat) : Int) := by
  subst hx
  refine ⟨⟨by omega, by omega, by omega⟩, ?_⟩
  rw [Int.toNat_natCast]
  push_cast
  rfl
def spStateM : Sp := fun vs H Q _ => ∃ (p d : Addr) (ws : List V) (l : Lad) (kvs : List (Str × V)) (k : Ws), vs = [.ref p, .ref d] ∧ H p = some (.lst ws) ∧ Two (IsRT H) ws l.rs ∧ l.rs.length ≤ 30 ∧ H d = some (.dK (dL id kvs)) ∧ MemD H kvs (memOf (writ l.rs) k) ∧ KFits l k ∧ l.fit ∧ Cnted l.rs k ∧
  ∀ H', Same H H' → Q (.int (stateL l.rs k (writ l.rs) : Nat)) H'
theorem ok_stateM (T : TLState K mg) : FnAt P w K mg base CX0 "_law_state" 2 ["_law_rungs", "_law_memory"] spStateM := by
  have G__law_ends := ok_ends (P := P) (w := w) (base := base) T.ends
  refine fnAt_ok T.d_state sc__law_state (fun vs H Q E h => ?_) (fun f cdv A outer s H vs Q E hr h => ?_)
  · obtain ⟨p, d, ws, l, kvs, k, rfl, _⟩ := h; rfl
  · obtain ⟨p, d, ws, l, kvs, kw, rfl, hp, htw, hl, hd, hM, kf, lf, hc, k⟩ := h
    have hu := hu_of hr
    have hnum := kf.numOk lf hc
    refine ⟨_, (pss_cons (ps_set (i := 2) sc__law_state.nd rfl (by first | exact Or.inl rfl | exact Or.inr rfl) pe_int)
        (pss_cons (ps_set (i := 3) sc__law_state.nd rfl (by first | exact Or.inl rfl | exact Or.inr rfl) pe_int)
        (pss_cons (ps_for PassesOwn.never rfl (pi_items (pe_lockF (pe_callF G__law_ends hr pass0 (pa_cons (pv 0) pa_nil)))) (pg_tup rfl (pgs_cons (pg_name (i := 4) sc__law_state.nd rfl (by first | exact Or.inl rfl | exact Or.inr rfl)) (pgs_cons (pg_name (i := 5) sc__law_state.nd rfl (by first | exact Or.inl rfl | exact Or.inr rfl)) pgs_nil))) (pss_cons (ps_asg (pe_dget (by exact hu) (pv 1) (pv 4) (fun _ _ => rfl)) (pg_tup rfl (pgs_cons (pg_name (i := 6) sc__law_state.nd rfl (by first | exact Or.inl rfl | exact Or.inr rfl)) (pgs_cons (pg_name (i := 7) sc__law_state.nd rfl (by first | exact Or.inl rfl | exact Or.inr rfl)) (pgs_cons (pg_name (i := 8) sc__law_state.nd rfl (by first | exact Or.inl rfl | exact Or.inr rfl)) pgs_nil)))))
          (C8.pss_cut (ps_if (pt_cmpR op_eq (pe_ix ix_tup (pv 5) pe_int (fun _ _ => rfl)) pe_str (nomark _)) (pss_one (ps_aug (i := 2) sc__law_state.nd rfl (by first | exact Or.inl rfl | exact Or.inr rfl) (pe_op op_shl (pe_callTy call_int1 (by rfl) T.z_int (show PySem.bootBuiltins "int" = some (.type "int") by decide +kernel) (pa_cons (pv 6) pa_nil)) (pv 3)) iop_add)) (pss_one (ps_aug (i := 2) sc__law_state.nd rfl (by first | exact Or.inl rfl | exact Or.inr rfl) (pe_op op_shl (pe_op op_add (pv 7) (pe_op op_mul pe_int (pe_callTy call_int1 (by rfl) T.z_int (show PySem.bootBuiltins "int" = some (.type "int") by decide +kernel) (pa_cons (pe_and (pv 8) (pe_one (pe_cmpR op_eq (pe_ix ix_tup (pv 5) pe_int (fun _ _ => rfl)) pe_str (nomark _)))) pa_nil)))) (pv 3)) iop_add)))
          (pss_one (ps_aug (i := 3) sc__law_state.nd rfl (by first | exact Or.inl rfl | exact Or.inr rfl) (pe_ix ix_list (pe_lst (pa_cons (pe_ix ix_list (pe_lst (pa_cons pe_int (pa_cons pe_int pa_nil))) (pe_callTy call_int1 (by rfl) T.z_int (show PySem.bootBuiltins "int" = some (.type "int") by decide +kernel) (pa_cons (pe_cmpR op_eq (pe_ix ix_tup (pv 5) pe_int (fun _ _ => rfl)) pe_str (nomark _)) pa_nil)) (fun _ _ => rfl)) (pa_cons pe_int pa_nil))) (pe_callTy call_int1 (by rfl) T.z_int (show PySem.bootBuiltins "int" = some (.type "int") by decide +kernel) (pa_cons (pe_cmpR op_eq (pe_ix ix_tup (pv 5) pe_int (fun _ _ => rfl)) pe_str (nomark _)) pa_nil)) (fun _ _ => rfl)) iop_add)))))
        (pss_one (ps_ret (pv 2)))))), ?_⟩
    walk_at "rd"
    refine ⟨_, rfl, p, ws, l.rs, rfl, hp, htw, hl, fun H2 q kvsE s2 nq hq hE => ?_⟩
    refine ⟨q, _, rfl, hq, fun od => ?_⟩
    have e2 : Same H (upd H2 q (.frz od (.dK (dL id kvsE)))) := Same.mut s2 nq
    have hqf := upd_same (H := H2) (a := q) (o := .frz od (.dK (dL id kvsE)))
    have hE' : EndsT (upd H2 q (.frz od (.dK (dL id kvsE)))) l.rs kvsE := hE.mut hq fun ws e => nomatch e
    show (fun x H1 => _) (V.ref q) (upd H2 q (.frz od (.dK (dL id kvsE))))
    generalize upd H2 q (.frz od (.dK (dL id kvsE))) = F at e2 hqf hE' ⊢
    have hwn := writ_nodup l.rs
    have hwl := writ_len l.rs
    have hEl : kvsE.length = (writ l.rs).length := by
      have := congrArg List.length hE.keys
      rw [len_keys] at this
      exact this
    refine ⟨q, od, _, rfl, hqf, for_it walk_items (fun i σ H' => ∃ v4 v5 v6 v7 v8 : Option V, σ = [some (.ref p), some (.ref d), some (.int (stateL l.rs kw ((writ l.rs).take i) : Nat)), some (.int (widthL l.rs ((writ l.rs).take i) : Nat)), v4, v5, v6, v7, v8] ∧ Same F H')
      ⟨none, none, none, none, none, rfl, Same.refl _⟩ (fun i σ H' _ ⟨_, _, _, _, _, _, z⟩ => z _ _ hqf) ?_ ?_⟩
    · rintro i y σ H6 H6x hi' ⟨v4, v5, v6, v7, v8, rfl, s6⟩ ⟨T', y1, z, rfl, nT, rfl, hy, hz⟩
      obtain ⟨n, v, hnv, rfl, ez⟩ := item_at hy hz
      have ez : z = v := ez
      subst ez
      have hnw : (writ l.rs)[i]? = some n := by rw [← hE.keys]; exact keys_at hnv
      have hnm := List.mem_of_getElem? hnw
      have hgv := getL_at (by rw [hE.keys]; exact hwn) hnv
      refine ⟨T', _, rfl, SqT.of upd_same, rfl, ?_⟩
      walk_at "rd"
      have s7 := s6.trans (Same.new (o := .tup [V.str n, z]) nT)
      generalize upd H6 T' (.tup [V.str n, z]) = H7 at s7 ⊢
      have s07 := e2.trans s7
      obtain ⟨te, ks, km, hgz, hte, htold⟩ := hE'.told n hnm
      rw [hgv] at hgz
      cases hgz
      obtain ⟨tm, htm, htmt⟩ := hM.at_ n _ (show getL (memOf (writ l.rs) kw) n = some (kw.bitOf n, kw.cntOf n, kw.seenOf n) by unfold memOf; rw [getL_map, if_pos hnm])
      have etk : (writ l.rs).take (i + 1) = (writ l.rs).take i ++ [n] := by rw [List.take_succ, hnw]; rfl
      have hw : widthL l.rs ((writ l.rs).take i) ≤ 1000 := by
        have := widthL_le l.rs ((writ l.rs).take i)
        rw [List.length_take] at this
        omega
      have hm64 : numOf kw n < 64 := by
        have h1 := hnum n hnm
        have h2 : 2 ^ bitsOf l.rs n ≤ 2 ^ 5 := Nat.pow_le_pow_right (by decide) (bitsOf_le _ _).2
        omega
      have hte7 := s7 _ _ hte
      refine ⟨_, rfl, _, rfl, d, .ref tm, rfl, .inl ⟨_, .inr n, .inl (s07 _ _ hd), rfl, by rw [dL_get, htm]; rfl⟩, tm, _, rfl, SqT.of (s07 _ _ htmt), rfl, ?_⟩
      walk_at "rd"
      refine ⟨fun σ' H' => σ' = [some (.ref p), some (.ref d), some (.int (stateL l.rs kw ((writ l.rs).take (i + 1)) : Nat)), some (.int (widthL l.rs ((writ l.rs).take i) : Nat)), some (.str n), some (.ref te), some (.bl (kw.bitOf n)), some (.int (kw.cntOf n)), some (.bl (kw.seenOf n))] ∧ H' = H7, ?_, ?_⟩
      · walk_at "rd"
        refine ⟨te, _, 0, .str ks, rfl, rfl, SqT.of hte7, atI_int (by decide) rfl, rfl, ?_⟩
        unfold ToldOk at htold
        rw [etk, stateL_snoc]
        cases he : getL (ctE l.rs) n with
        | none =>
          rw [he] at htold
          have hks : ks = "" := htold
          subst hks
          obtain ⟨c1, c2⟩ := num_step (s := stateL l.rs kw ((writ l.rs).take i)) (x := if kw.bitOf n = true then 1 else 0) (m := numOf kw n) (by rw [numOf_none kf he]; split <;> rfl) hw hm64
          exact iteT ⟨c1, c2, rfl⟩
        | some e =>
          rw [he] at htold
          obtain ⟨hks, hkm⟩ := htold
          have hec := ctE_counts l.rs n e he
          subst hks hkm
          rw [if_neg (by rw [decide_eq_false (fun q => kind_empty _ hec (V.str.inj q))]; decide)]
          have hcn := hc n e he
          refine ite2 (fun hs => ⟨te, _, 0, .str e.k.kind, rfl, rfl, SqT.of hte7, atI_int (by decide) rfl, rfl, ?_⟩) (fun hs => ?_)
          · have hkc : e.k = .counter := by
              by_cases hk : e.k = .counter
              · exact hk
              · rw [kf.seen_timer lf he hk] at hs
                cases hs
            obtain ⟨c1, c2⟩ := num_step (s := stateL l.rs kw ((writ l.rs).take i)) (x := kw.cntOf n + 16 * 1) (m := numOf kw n) (by rw [numOf_some kf he, if_pos hs]; omega) hw hm64
            rw [hkc]
            exact ⟨c1, c2, rfl⟩
          · obtain ⟨c1, c2⟩ := num_step (s := stateL l.rs kw ((writ l.rs).take i)) (x := kw.cntOf n + 16 * 0) (m := numOf kw n) (by rw [numOf_some kf he, if_neg hs]; omega) hw hm64
            exact ⟨c1, c2, rfl⟩
      rintro σ' H' ⟨rfl, rfl⟩
      walk_at "rd"
      refine ⟨line_ge (by decide), fun p1 n1 => ?_⟩
      have w1 := Same.new (o := .lst [.int 4, .int 5]) n1
      refine ⟨te, _, 0, .str ks, rfl, rfl, SqT.of (w1 _ _ hte7), atI_int (by decide) rfl, rfl, ?_⟩
      obtain ⟨b1, b1v, hb1⟩ : ∃ b1 : Int, atI [V.int 4, .int 5] (if decide (V.str ks = V.str (Str.ofString "counter")) = true then 1 else 0) = some (.int b1) ∧ b1 = if decide (V.str ks = V.str (Str.ofString "counter")) = true then 5 else 4 := by
        split
        · exact ⟨5, rfl, rfl⟩
        · exact ⟨4, rfl, rfl⟩
      refine ⟨p1, _, _, _, rfl, rfl, SqL.of upd_same, b1v, line_ge (by show 2 ≤ 1000000; decide), fun p2 n2 => ?_⟩
      have w2 := w1.trans (Same.new (o := .lst [.int b1, .int 1]) n2)
      refine ⟨te, _, 0, .str ks, rfl, rfl, SqT.of (w2 _ _ hte7), atI_int (by decide) rfl, rfl, ?_⟩
      obtain ⟨b2, b2v, hb2⟩ : ∃ b2 : Int, atI [V.int b1, .int 1] (if decide (V.str ks = V.str (Str.ofString "")) = true then 1 else 0) = some (.int b2) ∧ b2 = if decide (V.str ks = V.str (Str.ofString "")) = true then 1 else b1 := by
        split
        · exact ⟨1, rfl, rfl⟩
        · exact ⟨b1, rfl, rfl⟩
      refine ⟨p2, _, _, _, rfl, rfl, SqL.of upd_same, b2v, _, rfl, _, _, _, _, _, ⟨?_, rfl, rfl, rfl, rfl, rfl⟩, s7.trans w2⟩
      rw [etk, widthL_snoc, hb2, hb1]
      unfold ToldOk at htold
      unfold bitsOf
      cases he : getL (ctE l.rs) n with
      | none =>
        rw [he] at htold
        have hks : ks = "" := htold
        subst hks
        rfl
      | some e =>
        rw [he] at htold
        obtain ⟨hks, hkm⟩ := htold
        have hec := ctE_counts l.rs n e he
        subst hks hkm
        rw [if_neg (by rw [decide_eq_false (fun q => kind_empty _ hec (V.str.inj q))]; decide)]
        dsimp only
        have h2 := kind_counter _ hec
        by_cases hk : e.k = .counter
        · rw [if_pos hk, hk]
          rfl
        · rw [if_neg hk, if_neg]
          · rfl
          · rw [decide_eq_false hk] at h2
            rw [decide_eq_false fun q => of_decide_eq_false h2 (V.str.inj q)]
            decide
    rintro σ G ⟨v4, v5, v6, v7, v8, rfl, s6⟩
    have hta : (writ l.rs).take (dL id kvsE).length = writ l.rs := List.take_of_length_le (by rw [dL_len, hEl]; exact Nat.le_refl _)
    rw [hta]
    walk_at "rd"
    exact k G (e2.trans s6)
end

/-! ### what an end does, to one name -/
def actM (e : EndC) (m : Bool × Int × Bool) (h : Bool) : Bool × Int × Bool := match e.k with
  | .coil => (h, m.2.1, m.2.2)
  | .latch => (m.1 || h, m.2.1, m.2.2)
  | .unlatch => if h = true then (false, 0, m.2.2) else m
  | .timer => (decide ((if h = true then min (m.2.1 + 1) e.m else 0) = e.m), if h = true then min (m.2.1 + 1) e.m else 0, m.2.2)
  | .counter => (decide ((if (h && !m.2.2) = true then min (m.2.1 + 1) e.m else m.2.1) = e.m), if (h && !m.2.2) = true then min (m.2.1 + 1) e.m else m.2.1, h)
def Ws.memAt (u : Ws) (n : Str) : Bool × Int × Bool := (u.bitOf n, u.cntOf n, u.seenOf n)
theorem act_at (u : Ws) (e : EndC) (h : Bool) : (act u e h).memAt e.n = actM e (u.memAt e.n) h := by
  unfold Ws.memAt My.act actM
  cases e.k with
  | coil =>
    dsimp only
    rw [bitOf_put, if_pos rfl]
    rfl
  | latch =>
    cases h with
    | true =>
      dsimp only
      rw [if_pos rfl, bitOf_put, if_pos rfl, Bool.or_true]
      rfl
    | false =>
      dsimp only
      rw [if_neg (by decide), Bool.or_false]
  | unlatch =>
    cases h with
    | true =>
      dsimp only
      rw [if_pos rfl, if_pos rfl, bitOf_put, if_pos rfl]
      by_cases hc : e.n ∈ keysL u.cnt
      · rw [if_pos hc, cntOf_put, if_pos rfl]
        rfl
      · rw [if_neg hc]
        have h0 : Ws.cntOf ⟨putL u.bits e.n false, u.cnt, u.seen⟩ e.n = 0 := by
          unfold Ws.cntOf
          rw [getL_none.mpr hc]
          rfl
        rw [h0]
        rfl
    | false => rfl
  | timer =>
    dsimp only
    rw [bitOf_put, if_pos rfl, cntOf_put, if_pos rfl]
    rfl
  | counter =>
    dsimp only
    rw [bitOf_put, if_pos rfl, seenOf_put, if_pos rfl]
    by_cases hc : (h && !u.seenOf e.n) = true
    · rw [if_pos hc, if_pos hc, cntOf_put, if_pos rfl]
    · rw [if_neg hc, if_neg hc]
      rfl
theorem act_other (u : Ws) (e : EndC) (h : Bool) {n : Str} (hn : ¬ n = e.n) : (act u e h).memAt n = u.memAt n := by
  unfold Ws.memAt My.act
  cases e.k with
  | coil =>
    dsimp only
    rw [bitOf_put, if_neg hn]
    rfl
  | latch =>
    cases h with
    | true =>
      dsimp only
      rw [if_pos rfl, bitOf_put, if_neg hn]
      rfl
    | false => rfl
  | unlatch =>
    cases h with
    | true =>
      dsimp only
      rw [if_pos rfl, bitOf_put, if_neg hn]
      by_cases hc : e.n ∈ keysL u.cnt
      · rw [if_pos hc, cntOf_put, if_neg hn]
        rfl
      · rw [if_neg hc]
        rfl
    | false => rfl
  | timer =>
    dsimp only
    rw [bitOf_put, if_neg hn, cntOf_put, if_neg hn]
    rfl
  | counter =>
    dsimp only
    rw [bitOf_put, if_neg hn, seenOf_put, if_neg hn]
    by_cases hc : (h && !u.seenOf e.n) = true
    · rw [if_pos hc, cntOf_put, if_neg hn]
      rfl
    · rw [if_neg hc]
      rfl
theorem memOf_get (ns : List Str) (u : Ws) (n : Str) : getL (memOf ns u) n = if n ∈ ns then some (u.memAt n) else none := getL_map _ _ _
theorem memOf_act {ns : List Str} (hn : ns.Nodup) (u : Ws) (e : EndC) (h : Bool) (he : e.n ∈ ns) : memOf ns (act u e h) = putL (memOf ns u) e.n (actM e (u.memAt e.n) h) := by
  refine list_ext (by rw [memOf_keys, keys_put (by rw [memOf_keys]; exact he), memOf_keys]) (by rw [memOf_keys]; exact hn) fun n => ?_
  rw [getL_put, memOf_get, memOf_get]
  by_cases hne : n = e.n
  · rw [if_pos hne, hne, if_pos he, act_at]
  · rw [if_neg hne, act_other u e h hne]
theorem act_bits {u : Ws} {e : EndC} {h : Bool} (hn : (keysL u.bits).Nodup) (he : e.n ∈ keysL u.bits) : (act u e h).bits = putL u.bits e.n (actM e (u.memAt e.n) h).1 := by
  have self : ∀ v, u.bitOf e.n = v → putL u.bits e.n v = u.bits := fun v hv => by
    refine list_ext (by rw [keys_put he]) (by rw [keys_put he]; exact hn) fun n => ?_
    rw [getL_put]
    by_cases hne : n = e.n
    · obtain ⟨w, hw⟩ := getL_mem.mpr he
      rw [if_pos hne, hne, hw]
      unfold Ws.bitOf at hv
      rw [hw] at hv
      rw [← hv]
      rfl
    · rw [if_neg hne]
  have hb := congrArg Prod.fst (act_at u e h)
  rw [← hb]
  show _ = putL u.bits e.n ((My.act u e h).bitOf e.n)
  unfold My.act at hb ⊢
  cases hk : e.k with
  | coil =>
    dsimp only
    rw [bitOf_put, if_pos rfl]
  | latch =>
    cases h with
    | true =>
      dsimp only
      rw [if_pos rfl, bitOf_put, if_pos rfl]
    | false =>
      dsimp only
      rw [if_neg (by decide), self _ rfl]
  | unlatch =>
    cases h with
    | true =>
      dsimp only
      rw [if_pos rfl, bitOf_put, if_pos rfl]
    | false =>
      dsimp only
      rw [if_neg (by decide), self _ rfl]
  | timer =>
    dsimp only
    rw [bitOf_put, if_pos rfl]
  | counter =>
    dsimp only
    rw [bitOf_put, if_pos rfl]
theorem getL_zip : ∀ {ns : List Str} {bs : List Bool} {i : Nat} {n : Str} {b : Bool}, ns.Nodup → ns[i]? = some n → bs[i]? = some b → getL (ns.zip bs) n = some b
  | x :: ns, y :: bs, 0, n, b, _, h1, h2 => by
    cases h1
    cases h2
    rw [List.zip_cons_cons, getL_cons, if_pos rfl]
  | x :: ns, y :: bs, i + 1, n, b, hn, h1, h2 => by
    obtain ⟨n1, n2⟩ := List.nodup_cons.mp hn
    have h1' : ns[i]? = some n := h1
    rw [List.zip_cons_cons, getL_cons, if_neg, getL_zip n2 h1' h2]
    intro e
    have e : x = n := e
    exact n1 (by rw [e]; exact List.mem_of_getElem? h1')
theorem zip_keys {ns : List Str} {bs : List Bool} (h : bs.length = ns.length) : keysL (ns.zip bs) = ns := by
  unfold keysL
  exact List.map_fst_zip (by omega)
/-- the bits at a scan's begin -/
theorem row_bits {l : Lad} {k : Ws} (f : KFits l k) (g : l.fit) (hi : l.ins.Nodup) {row : List Bool} (hr : row.length = l.ins.length) : putRow (backW l k).bits (l.ins.zip row) = (l.ins.zip row) ++ (writ l.rs).map fun n => (n, k.bitOf n) := by
  have hkz := zip_keys hr
  have hkb : keysL (backW l k).bits = l.ins ++ writ l.rs := (backW_fits f).kb
  have hk1 : keysL (putRow (backW l k).bits (l.ins.zip row)) = l.ins ++ writ l.rs := by
    rw [putRow_keys, hkb]
    intro p hp
    rw [hkb]
    exact List.mem_append_left _ (List.of_mem_zip hp).1
  have hall : (l.ins ++ writ l.rs).Nodup := List.nodup_append.mpr ⟨hi, writ_nodup _, fun a ha b hb e => g.apart a ha (e ▸ hb)⟩
  refine list_ext ?_ (by rw [hk1]; exact hall) fun n => ?_
  · rw [hk1, keysL, List.map_append, ← keysL, ← keysL, hkz, keys_map]
  · have e1 : getL (putRow (backW l k).bits (l.ins.zip row)) n = (getL (l.ins.zip row) n).or (getL (backW l k).bits n) := putAll_get n _ _ (by rw [hkz]; exact hi)
    rw [e1, getL_app, getL_map]
    by_cases hz : n ∈ l.ins
    · obtain ⟨i, hi'⟩ := List.getElem?_of_mem hz
      have hil := (List.getElem?_eq_some_iff.mp hi').1
      rw [getL_zip hi hi' (List.getElem?_eq_getElem (show i < row.length by omega))]
      rfl
    · rw [getL_none.mpr (by rw [hkz]; exact hz)]
      by_cases hw : n ∈ writ l.rs
      · rw [if_pos hw, back_get g hw]
        obtain ⟨v, hv⟩ := getL_mem.mpr (show n ∈ keysL k.bits by rw [f.kb]; exact hw)
        rw [hv]
        unfold Ws.bitOf
        rw [hv]
        rfl
      · rw [if_neg hw, getL_none.mpr (by rw [hkb]; exact fun q => (List.mem_append.mp q).elim hz hw)]
/-- the works as a scan begins -/
def atRow (l : Lad) (k : Ws) (row : List Bool) : Ws := ⟨putRow (backW l k).bits (l.ins.zip row), k.cnt, k.seen⟩
theorem scanP_row (l : Lad) (k : Ws) (row : List Bool) : scanP l (backW l k) row = goRungs (atRow l k row) l.rs := rfl
theorem memOf_row {l : Lad} {k : Ws} (g : l.fit) (row : List Bool) : memOf (writ l.rs) (atRow l k row) = memOf (writ l.rs) k := List.map_congr_left fun n hn => by
  have hb : (atRow l k row).bitOf n = k.bitOf n := by
    show (getL (putRow (backW l k).bits (l.ins.zip row)) n).getD false = _
    rw [putRow_get, back_get g hn]
    · rfl
    · intro q
      obtain ⟨p, hp, rfl⟩ := List.mem_map.mp q
      exact g.apart _ (List.of_mem_zip hp).1 hn
  rw [hb]
  rfl
theorem memOf_kept {l : Lad} {u : Ws} : memOf (writ l.rs) (keptW l u) = memOf (writ l.rs) u := List.map_congr_left fun n hn => by
  rw [kept_bit hn]
  rfl

--%% NN
/-! ## the law's holds -/
abbrev s__law_holds : Stmt := top 74
theorem sc__law_holds : FnScope ["_law_tree_here", "_law_bits", "_law_some", "_law_one"] ["_law_tree_here", "_law_bits"] (defScope s__law_holds) := ⟨rfl, rfl, rfl, by decide +kernel, rfl, by decide +kernel, by decide +kernel⟩
structure TLH (K : PySem.W.Frag) (mg : Str → Option Value) : Prop where
  d_lholds : DefAt K mg "_law_holds" s__law_holds ["_law_tree_here", "_law_bits"]
  z_any : mg "any" = none
  z_all : mg "all" = none
  z_int : mg "int" = none
theorem anys_any (f : Im) : ∀ cs : List Cond, (cs.map fun c => c.holds f).any id = Cond.anys f cs
  | [] => rfl
  | c :: cs => by
    rw [List.map_cons, List.any_cons, anys_any f cs, Cond.anys]
    rfl
theorem alls_all (f : Im) : ∀ cs : List Cond, (cs.map fun c => c.holds f).all id = Cond.alls f cs
  | [] => rfl
  | c :: cs => by
    rw [List.map_cons, List.all_cons, alls_all f cs, Cond.alls]
    rfl
theorem k_fx (c : Cond) : decide (V.str (kindS c) = V.str "fixed") = (match c with | .fixed _ => true | _ => false) := by
  cases c with
  | fixed b => rfl
  | contact b => exact decide_eq_false (by show ¬ (V.str (Str.ofString "contact") = V.str (Str.ofString "fixed")); decide +kernel)
  | not b => exact decide_eq_false (by show ¬ (V.str (Str.ofString "not") = V.str (Str.ofString "fixed")); decide +kernel)
  | grp s cs =>
    cases s
    · exact decide_eq_false (by show ¬ (V.str (Str.ofString "or") = V.str (Str.ofString "fixed")); decide +kernel)
    · exact decide_eq_false (by show ¬ (V.str (Str.ofString "and") = V.str (Str.ofString "fixed")); decide +kernel)
theorem k_ct (c : Cond) : decide (V.str (kindS c) = V.str "contact") = (match c with | .contact _ => true | _ => false) := by
  cases c with
  | fixed b => exact decide_eq_false (by show ¬ (V.str (Str.ofString "fixed") = V.str (Str.ofString "contact")); decide +kernel)
  | contact b => rfl
  | not b => exact decide_eq_false (by show ¬ (V.str (Str.ofString "not") = V.str (Str.ofString "contact")); decide +kernel)
  | grp s cs =>
    cases s
    · exact decide_eq_false (by show ¬ (V.str (Str.ofString "or") = V.str (Str.ofString "contact")); decide +kernel)
    · exact decide_eq_false (by show ¬ (V.str (Str.ofString "and") = V.str (Str.ofString "contact")); decide +kernel)
theorem k_tn (c : Cond) : decide (V.str (kindS c) = V.str "not") = (match c with | .not _ => true | _ => false) := by
  cases c with
  | fixed b => exact decide_eq_false (by show ¬ (V.str (Str.ofString "fixed") = V.str (Str.ofString "not")); decide +kernel)
  | contact b => exact decide_eq_false (by show ¬ (V.str (Str.ofString "contact") = V.str (Str.ofString "not")); decide +kernel)
  | not b => rfl
  | grp s cs =>
    cases s
    · exact decide_eq_false (by show ¬ (V.str (Str.ofString "or") = V.str (Str.ofString "not")); decide +kernel)
    · exact decide_eq_false (by show ¬ (V.str (Str.ofString "and") = V.str (Str.ofString "not")); decide +kernel)
theorem k_an (s : Bool) : decide (V.str (word s) = V.str "and") = s := by
  cases s
  · exact decide_eq_false (by show ¬ (V.str (Str.ofString "or") = V.str (Str.ofString "and")); decide +kernel)
  · rfl
section
variable {P : Program} {w : World} {K : PySem.W.Frag} {mg : Str → Option Value} {base : Heap}
def spLHolds (n : Nat) : Sp := fun vs H Q _ => ∃ (v : V) (d : Addr) (c : Cond) (kvs : List (Key × V)), vs = [v, .ref d] ∧ IsT H v c ∧ H d = some (.dK kvs) ∧ GoodD kvs ∧ c.depth ≤ n ∧ c.size ≤ 1000 ∧ ∀ H' : Hp, Same H H' → Q (.bl (c.holds (imF kvs))) H'
theorem ok_lholds (T : TLH K mg) : ∀ n : Nat, FnAt P w K mg base CX0 "_law_holds" (n + 1) ["_law_tree_here", "_law_bits"] (spLHolds n)
  | 0 => by
    refine fnAt_ok T.d_lholds sc__law_holds (fun vs H Q E h => ?_) (fun f cdv A outer s H vs Q E hr h => ?_)
    · obtain ⟨v, d, c, kvs, rfl, _⟩ := h; rfl
    · obtain ⟨v, d, c, kvs, rfl, p, _, _, hd, _⟩ := h
      exact absurd c.depth_pos (by omega)
  | n + 1 => by
    have G__law_holds := ok_lholds T n
    refine fnAt_ok T.d_lholds sc__law_holds (fun vs H Q E h => ?_) (fun f cdv A outer s H vs Q E hr h => ?_)
    · obtain ⟨v, d, c, kvs, rfl, _⟩ := h; rfl
    · obtain ⟨v, d, c, kvs, rfl, p, hD, hg, hd, hz, k⟩ := h
      have hu := hu_of hr
      refine ⟨_, (pss_cons (ps_if (pt_cmpR op_eq (pe_ix ix_tup (pv 0) pe_int (fun _ _ => rfl)) pe_str (nomark _)) (pss_one (ps_ret (pe_ix ix_tup (pv 0) pe_int (fun _ _ => rfl)))) pss_nil)
        (pss_cons (ps_if (pt_cmpR op_eq (pe_ix ix_tup (pv 0) pe_int (fun _ _ => rfl)) pe_str (nomark _)) (pss_one (ps_ret (pe_dget2 hu (pv 1) (pe_ix ix_tup (pv 0) pe_int (fun _ _ => rfl)) pe_bl (by constructor <;> rfl)))) pss_nil)
        (pss_cons (ps_if (pt_cmpR op_eq (pe_ix ix_tup (pv 0) pe_int (fun _ _ => rfl)) pe_str (nomark _)) (pss_one (ps_ret (pe_not (pe_callF G__law_holds hr pass0 (pa_cons (pe_ix ix_tup (pv 0) pe_int (fun _ _ => rfl)) (pa_cons (pv 1) pa_nil)) (Nat.le_refl _))))) pss_nil)
        (pss_cons (ps_setLc (i := 2) (own := [("_law_one", 3)]) (g := gName 3) (tt := tYes) rfl sc__law_holds.nd rfl rfl (sw_true rfl rfl rfl (by decide +kernel)) (pi_tup (pe_slice sl_tup (pv 0) (po_some pe_int) po_none)) (blkOk_by (own := [("_law_one", 3)]) (N := ["_law_tree_here", "_law_bits", "_law_some", "_law_one"]) (sc := defScope s__law_holds) (by decide +kernel)) (fun _ _ _ _ _ => pg_name (i := 3) sc__law_holds.nd rfl (Or.inl rfl)) (fun _ _ _ _ _ => pts_nil) (fun _ _ _ _ _ => (pe_callF G__law_holds hr pass0 (pa_cons (pv 3) (pa_cons (pv 1) pa_nil)) (Nat.le_refl _))))
        (pss_one (ps_ret (pe_ix ix_list (pe_lst (pa_cons (pe_callB (cr_any rfl) (by rfl) T.z_any (by decide +kernel) (pa_cons (pv 2) pa_nil)) (pa_cons (pe_callB (cr_all rfl) (by rfl) T.z_all (by decide +kernel) (pa_cons (pv 2) pa_nil)) pa_nil))) (pe_callTy call_int1 (by rfl) T.z_int (show PySem.bootBuiltins "int" = some (.type "int") by decide +kernel) (pa_cons (pe_cmpR op_eq (pe_ix ix_tup (pv 0) pe_int (fun _ _ => rfl)) pe_str (nomark _)) pa_nil)) (fun _ _ => rfl)))))))), ?_⟩
      walk_at "rd"
      obtain ⟨t, _, rfl, _⟩ := p.ref
      obtain ⟨rest, hsh, hki⟩ := p.shape
      refine ⟨t, _, 0, .str (kindS c), rfl, rfl, SqT.of hsh, atI_int (by decide) rfl, rfl, ?_⟩
      rw [k_fx]
      cases c with
      | fixed b =>
        cases p with
        | fixed h0 => exact iteT ⟨t, _, 1, .bl b, rfl, rfl, SqT.of h0, atI_int (by decide) rfl, k _ (Same.refl _)⟩
      | contact m =>
        cases p with
        | contact h0 =>
          refine iteF ⟨t, _, 0, .str (kindS (.contact m)), rfl, rfl, SqT.of hsh, atI_int (by decide) rfl, rfl, ?_⟩
          rw [k_ct]
          refine iteT ⟨_, rfl, d, rfl, .inl ⟨kvs, .inl hD⟩, _, rfl, t, _, 1, .str m, rfl, rfl, SqT.of h0, atI_int (by decide) rfl, valV kvs (Sum.inr m : Key), .inl ⟨kvs, Sum.inr m, .inl hD, rfl, rfl⟩, ?_⟩
          have k0 := k H (Same.refl _)
          rcases hg.at m with ⟨h1, h2⟩ | h1
          · rw [h1]
            rw [Cond.holds, h2] at k0
            exact k0
          · rw [h1]
            exact k0
      | not c =>
        cases p with
        | @not _ u _ h0 pu =>
          refine iteF ⟨t, _, 0, .str (kindS (.not c)), rfl, rfl, SqT.of hsh, atI_int (by decide) rfl, rfl, ?_⟩
          rw [k_ct]
          refine iteF ⟨t, _, 0, .str (kindS (.not c)), rfl, rfl, SqT.of hsh, atI_int (by decide) rfl, rfl, ?_⟩
          rw [k_tn]
          rw [Cond.depth] at hd
          rw [Cond.size] at hz
          exact iteT ⟨t, _, 1, u, rfl, rfl, SqT.of h0, atI_int (by decide) rfl, u, d, c, kvs, rfl, pu, hD, hg, by omega, by omega, fun H1 s1 => ⟨_, rfl, k _ s1⟩⟩
      | grp s cs =>
        refine iteF ⟨t, _, 0, .str (kindS (.grp s cs)), rfl, rfl, SqT.of hsh, atI_int (by decide) rfl, rfl, ?_⟩
        rw [k_ct]
        refine iteF ⟨t, _, 0, .str (kindS (.grp s cs)), rfl, rfl, SqT.of hsh, atI_int (by decide) rfl, rfl, ?_⟩
        rw [k_tn]
        cases p with
        | @grp _ vs _ _ h0 ps =>
          rw [Cond.depth] at hd
          rw [Cond.size] at hz
          have hl := ps.length
          have hz2 := Cond.len_sizes cs
          refine iteF ⟨_, rfl, 1, rfl, t, _, rfl, SqT.of h0, ?_, fun t1 nt1 => ?_⟩
          · rintro ⟨h1, _⟩
            rw [show (1 : Int) = ((1 : Nat) : Int) from rfl, HT.sIx_nat, List.length_cons] at h1
            omega
          have e2 : cutV (.str (word s) :: vs) (some 1) none = vs := by
            rw [show (1 : Int) = ((1 : Nat) : Int) from rfl, cutV_from]
            rfl
          rw [e2]
          have s1 := Same.new (o := .tup vs) nt1
          refine ⟨t1, rfl, ⟨_, SqT.of upd_same⟩, fun D nD => lc_tup (K := K) (a := t1) (xs := vs) (fun i H' => Same (upd H t1 (.tup vs)) H' ∧ H' D = some (.lst ((cs.map fun c => V.bl (c.holds (imF kvs))).take i)))
            ⟨Same.new nD, upd_same⟩ (fun i H' _ q => SqT.of (q.1 _ _ upd_same)) ?_ ?_⟩
          · rintro i y H2 hy ⟨q1, q2⟩
            obtain ⟨c', hc', p'⟩ := (ps.mono (T := fun _ => False) (Same.imm (s1.trans q1))).at hy
            have hm := List.mem_of_getElem? hc'
            have h1 := Cond.depth_mem hm
            have h2 := Cond.size_mem hm
            refine ⟨rfl, _, rfl, _, rfl, y, d, c', kvs, rfl, p', q1 _ _ (s1 _ _ hD), hg, by omega, by omega, fun H3 s3 => ?_⟩
            exact lc_push (q1.trans s3) nD (s3 _ _ q2) (by rw [List.getElem?_map, hc']; rfl) (by rw [List.length_map]; omega)
          · rintro H2 ⟨q1, q2⟩
            rw [hl, List.take_of_length_le (by simp)] at q2
            have fl : (cs.map fun c => V.bl (c.holds (imF kvs))).all flatV = true := by simp [List.all_map, flatV]
            have k0 := k _ (s1.trans q1)
            rw [show cs.map (fun c => V.bl (c.holds (imF kvs))) = (cs.map fun c => c.holds (imF kvs)).map V.bl by rw [List.map_map]; rfl] at q2
            refine ⟨D, _, rfl, SqL.of q2, D, _, rfl, SqL.of q2, line_ge (by show 2 ≤ 1000000; decide), fun pl npl => ?_⟩
            have v1 := Same.new (o := .lst [.bl ((cs.map fun c => c.holds (imF kvs)).any id), .bl ((cs.map fun c => c.holds (imF kvs)).all id)]) npl
            refine ⟨t, _, 0, .str (word s), rfl, rfl, SqT.of (v1 _ _ (q1 _ _ (s1 _ _ h0))), atI_int (by decide) rfl, rfl, ?_⟩
            rw [k_an]
            refine ⟨pl, _, _, .bl (Cond.holds (imF kvs) (.grp s cs)), rfl, rfl, SqL.of upd_same, ?_, k _ ((s1.trans q1).trans v1)⟩
            cases s with
            | true =>
              rw [Cond.holds, if_pos rfl, alls_all]
              rfl
            | false =>
              rw [Cond.holds, if_neg (by decide), anys_any]
              rfl
end

--%% NO
/-! ## the law's scan of a memory -/
abbrev s__law_begun : Stmt := top 76
theorem sc__law_begun : FnScope ["_law_rungs", "_law_found", "_law_name"] ["_law_rungs"] (defScope s__law_begun) := ⟨rfl, rfl, rfl, by decide +kernel, rfl, by decide +kernel, by decide +kernel⟩
abbrev s__law_acted : Stmt := top 77
theorem sc__law_acted : FnScope ["_law_end_here", "_law_was", "_law_holds_here", "_law_bit", "_law_count", "_law_saw", "_law_more"] ["_law_end_here", "_law_was", "_law_holds_here"] (defScope s__law_acted) := ⟨rfl, rfl, rfl, by decide +kernel, rfl, by decide +kernel, by decide +kernel⟩
abbrev s__law_scanned : Stmt := top 78
theorem sc__law_scanned : FnScope ["_law_model", "_law_memory", "_law_number", "_law_inputs", "_law_outputs", "_law_rungs", "_law_bits", "_law_k", "_law_name", "_law_was", "_law_held", "_law_tree_here", "_law_end_here", "_law_holds_here"] ["_law_model", "_law_memory", "_law_number"] (defScope s__law_scanned) := ⟨rfl, rfl, rfl, by decide +kernel, rfl, by decide +kernel, by decide +kernel⟩
structure TLScan (K : PySem.W.Frag) (mg : Str → Option Value) : Prop where
  ends : TLEnds K mg
  lh : TLH K mg
  d_begun : DefAt K mg "_law_begun" s__law_begun ["_law_rungs"]
  d_acted : DefAt K mg "_law_acted" s__law_acted ["_law_end_here", "_law_was", "_law_holds_here"]
  d_scanned : DefAt K mg "_law_scanned" s__law_scanned ["_law_model", "_law_memory", "_law_number"]
  z_len : mg "len" = none
  z_range : mg "range" = none
  z_int : mg "int" = none
  z_min : mg "min" = none
  z_dict : mg "dict" = none
section
variable {P : Program} {w : World} {K : PySem.W.Frag} {mg : Str → Option Value} {base : Heap}
theorem dec_int (x m : Int) : decide (V.int x = V.int m) = decide (x = m) := decide_eq_decide.mpr ⟨fun q => V.int.inj q, fun q => congrArg V.int q⟩
def memV (m : Bool × Int × Bool) : HO := .tup [.bl m.1, .int m.2.1, .bl m.2.2]
def spActed : Sp := fun vs H Q _ => ∃ (te tw : Addr) (e : EndC) (m : Bool × Int × Bool) (h : Bool), vs = [.ref te, .ref tw, .bl h] ∧ H te = some (.tup [.str e.k.kind, .str e.n, .int e.m]) ∧ H tw = some (memV m) ∧
  ∀ (H' : Hp) (t : Addr), Same H H' → H' t = some (memV (actM e m h)) → Q (.ref t) H'
theorem ok_acted (T : TLScan K mg) : FnAt P w K mg base CX0 "_law_acted" 1 ["_law_end_here", "_law_was", "_law_holds_here"] spActed := by
  refine fnAt_ok T.d_acted sc__law_acted (fun vs H Q E h => ?_) (fun f cdv A outer s H vs Q E hr h => ?_)
  · obtain ⟨te, tw, e, m, h, rfl, _⟩ := h; rfl
  · obtain ⟨te, tw, e, m, h, rfl, hte, htw, k⟩ := h
    have hu := hu_of hr
    obtain ⟨mb, mc, ms⟩ := m
    refine ⟨_, (pss_cons (ps_asg (pv 1) (pg_tup rfl (pgs_cons (pg_name (i := 3) sc__law_acted.nd rfl (by first | exact Or.inl rfl | exact Or.inr rfl)) (pgs_cons (pg_name (i := 4) sc__law_acted.nd rfl (by first | exact Or.inl rfl | exact Or.inr rfl)) (pgs_cons (pg_name (i := 5) sc__law_acted.nd rfl (by first | exact Or.inl rfl | exact Or.inr rfl)) pgs_nil)))))
        (pss_cons (ps_if (pt_cmpR op_eq (pe_ix ix_tup (pv 0) pe_int (fun _ _ => rfl)) pe_str (nomark _)) (pss_one (ps_ret (pe_tup (pa_cons (pv 2) (pa_cons (pv 4) (pa_cons (pv 5) pa_nil)))))) pss_nil)
        (pss_cons (ps_if (pt_cmpR op_eq (pe_ix ix_tup (pv 0) pe_int (fun _ _ => rfl)) pe_str (nomark _)) (pss_one (ps_ret (pe_tup (pa_cons (pe_or (pv 3) (pe_one (pv 2))) (pa_cons (pv 4) (pa_cons (pv 5) pa_nil)))))) pss_nil)
        (pss_cons (ps_if (pt_cmpR op_eq (pe_ix ix_tup (pv 0) pe_int (fun _ _ => rfl)) pe_str (nomark _)) (pss_one (ps_ret (pe_ix ix_list (pe_lst (pa_cons (pv 1) (pa_cons (pe_tup (pa_cons pe_bl (pa_cons pe_int (pa_cons (pv 5) pa_nil)))) pa_nil))) (pe_callTy call_int1 (by rfl) T.z_int (show PySem.bootBuiltins "int" = some (.type "int") by decide +kernel) (pa_cons (pv 2) pa_nil)) (fun _ _ => rfl)))) pss_nil)
        (pss_cons (ps_set (i := 6) sc__law_acted.nd rfl (by first | exact Or.inl rfl | exact Or.inr rfl) (pe_callB (call_min2 rfl) (by rfl) T.z_min (by decide +kernel) (pa_cons (pe_op op_add (pv 4) pe_int) (pa_cons (pe_ix ix_tup (pv 0) pe_int (fun _ _ => rfl)) pa_nil))))
        (pss_cons (ps_if (pt_cmpR op_eq (pe_ix ix_tup (pv 0) pe_int (fun _ _ => rfl)) pe_str (nomark _)) (pss_cons (ps_set (i := 4) sc__law_acted.nd rfl (by first | exact Or.inl rfl | exact Or.inr rfl) (pe_ix ix_list (pe_lst (pa_cons pe_int (pa_cons (pv 6) pa_nil))) (pe_callTy call_int1 (by rfl) T.z_int (show PySem.bootBuiltins "int" = some (.type "int") by decide +kernel) (pa_cons (pv 2) pa_nil)) (fun _ _ => rfl)))
          (pss_one (ps_ret (pe_tup (pa_cons (pe_cmpR op_eq (pv 4) (pe_ix ix_tup (pv 0) pe_int (fun _ _ => rfl)) (nomark _)) (pa_cons (pv 4) (pa_cons (pv 5) pa_nil))))))) pss_nil)
        (pss_cons (ps_set (i := 4) sc__law_acted.nd rfl (by first | exact Or.inl rfl | exact Or.inr rfl) (pe_ix ix_list (pe_lst (pa_cons (pv 4) (pa_cons (pv 6) pa_nil))) (pe_callTy call_int1 (by rfl) T.z_int (show PySem.bootBuiltins "int" = some (.type "int") by decide +kernel) (pa_cons (pe_and (pv 2) (pe_one (pe_not (pv 5)))) pa_nil)) (fun _ _ => rfl)))
        (pss_one (ps_ret (pe_tup (pa_cons (pe_cmpR op_eq (pv 4) (pe_ix ix_tup (pv 0) pe_int (fun _ _ => rfl)) (nomark _)) (pa_cons (pv 4) (pa_cons (pv 2) pa_nil))))))))))))), ?_⟩
    walk_at "rd"
    refine ⟨tw, _, rfl, SqT.of htw, rfl, ?_⟩
    walk_at "rd"
    obtain ⟨ek, n, m⟩ := e
    have ix0 : SqT K H te [.str ek.kind, .str n, .int m] := SqT.of hte
    have hmin : (if m < mc + 1 then m else mc + 1) = min (mc + 1) m := by split <;> omega
    have tup3 : ∀ {H' : Hp} {Q' : VK} {x1 x2 x3 : V}, (∀ p, H' p = none → Q' (.ref p) (upd H' p (.tup [x1, x2, x3]))) → 0 + 1 + 1 + 1 ≤ sizeLine ∧ ∀ p, H' p = none → Q' (.ref p) (upd H' p (.tup [x1, x2, x3])) := fun h => ⟨line_ge (by decide), h⟩
    cases ek with
    | coil => exact ⟨te, _, 0, _, rfl, rfl, ix0, atI_int (by decide) rfl, rfl, iteT (tup3 fun p np => k _ p (Same.new np) upd_same)⟩
    | latch =>
      refine ⟨te, _, 0, _, rfl, rfl, ix0, atI_int (by decide) rfl, rfl, iteF ⟨te, _, 0, _, rfl, rfl, ix0, atI_int (by decide) rfl, rfl, iteT ?_⟩⟩
      cases mb with
      | true => exact iteT (tup3 fun p np => k _ p (Same.new np) upd_same)
      | false => exact iteF (tup3 fun p np => k _ p (Same.new np) upd_same)
    | unlatch =>
      refine ⟨te, _, 0, _, rfl, rfl, ix0, atI_int (by decide) rfl, rfl, iteF ⟨te, _, 0, _, rfl, rfl, ix0, atI_int (by decide) rfl, rfl, iteF ⟨te, _, 0, _, rfl, rfl, ix0, atI_int (by decide) rfl, rfl, iteT ⟨line_ge (by decide), fun p np => ⟨line_ge (by decide), fun q nq => ?_⟩⟩⟩⟩⟩
      have s1 := Same.new (o := .tup [.bl false, .int 0, .bl ms]) np
      have s2 := Same.new (o := .lst [.ref tw, .ref p]) nq
      cases h with
      | true => exact ⟨q, _, _, .ref p, rfl, rfl, SqL.of upd_same, rfl, k _ p (s1.trans s2) (s2 _ _ upd_same)⟩
      | false => exact ⟨q, _, _, .ref tw, rfl, rfl, SqL.of upd_same, rfl, k _ tw (s1.trans s2) ((s1.trans s2) _ _ htw)⟩
    | timer =>
      refine ⟨te, _, 0, _, rfl, rfl, ix0, atI_int (by decide) rfl, rfl, iteF ⟨te, _, 0, _, rfl, rfl, ix0, atI_int (by decide) rfl, rfl, iteF ⟨te, _, 0, _, rfl, rfl, ix0, atI_int (by decide) rfl, rfl, iteF ⟨te, _, 2, _, rfl, rfl, ix0, atI_int (by decide) rfl, _, _, ⟨rfl, rfl⟩, te, _, 0, _, rfl, rfl, ix0, atI_int (by decide) rfl, rfl, iteT ?_⟩⟩⟩⟩
      rw [hmin]
      refine ⟨line_ge (by show 2 ≤ 1000000; decide), fun p np => ?_⟩
      have s1 := Same.new (o := .lst [.int 0, .int (min (mc + 1) m)]) np
      have hat : atI [V.int 0, .int (min (mc + 1) m)] (if h = true then 1 else 0) = some (.int (if h = true then min (mc + 1) m else 0)) := by cases h <;> rfl
      refine ⟨p, _, _, _, rfl, rfl, SqL.of upd_same, hat, te, _, 2, _, rfl, rfl, SqT.of (s1 _ _ hte), atI_int (by decide) rfl, scal_ii, tup3 fun q nq => k _ q (s1.trans (Same.new nq)) ?_⟩
      rw [upd_same, dec_int]
      rfl
    | counter =>
      refine ⟨te, _, 0, _, rfl, rfl, ix0, atI_int (by decide) rfl, rfl, iteF ⟨te, _, 0, _, rfl, rfl, ix0, atI_int (by decide) rfl, rfl, iteF ⟨te, _, 0, _, rfl, rfl, ix0, atI_int (by decide) rfl, rfl, iteF ⟨te, _, 2, _, rfl, rfl, ix0, atI_int (by decide) rfl, _, _, ⟨rfl, rfl⟩, te, _, 0, _, rfl, rfl, ix0, atI_int (by decide) rfl, rfl, iteF ?_⟩⟩⟩⟩
      rw [hmin]
      refine ⟨line_ge (by show 2 ≤ 1000000; decide), fun p np => ?_⟩
      have s1 := Same.new (o := .lst [.int mc, .int (min (mc + 1) m)]) np
      have hat : ∀ b : Bool, atI [V.int mc, .int (min (mc + 1) m)] (if b = true then 1 else 0) = some (.int (if b = true then min (mc + 1) m else mc)) := fun b => by cases b <;> rfl
      cases h with
      | true =>
        refine iteT ⟨p, _, _, _, rfl, rfl, SqL.of upd_same, hat (!ms), te, _, 2, _, rfl, rfl, SqT.of (s1 _ _ hte), atI_int (by decide) rfl, scal_ii, tup3 fun q nq => k _ q (s1.trans (Same.new nq)) ?_⟩
        rw [upd_same, dec_int]
        rfl
      | false =>
        refine iteF ⟨p, _, _, _, rfl, rfl, SqL.of upd_same, hat false, te, _, 2, _, rfl, rfl, SqT.of (s1 _ _ hte), atI_int (by decide) rfl, scal_ii, tup3 fun q nq => k _ q (s1.trans (Same.new nq)) ?_⟩
        rw [upd_same, dec_int]
        rfl
def spBegun : Sp := fun vs H Q _ => ∃ (p : Addr) (ws : List V) (l : Lad), vs = [.ref p] ∧ H p = some (.lst ws) ∧ Two (IsRT H) ws l.rs ∧ l.rs.length ≤ 30 ∧
  ∀ (H' : Hp) (d : Addr) (kvs : List (Str × V)), Same H H' → H' d = some (.dK (dL id kvs)) → MemD H' kvs ((writ l.rs).map fun n => (n, (false, 0, false))) → Q (.ref d) H'
theorem ok_begun (T : TLScan K mg) : FnAt P w K mg base CX0 "_law_begun" 2 ["_law_rungs"] spBegun := by
  have G__law_ends := ok_ends (P := P) (w := w) (base := base) T.ends
  refine fnAt_ok T.d_begun sc__law_begun (fun vs H Q E h => ?_) (fun f cdv A outer s H vs Q E hr h => ?_)
  · obtain ⟨p, ws, l, rfl, _⟩ := h; rfl
  · obtain ⟨p, ws, l, rfl, hp, htw, hl, k⟩ := h
    have hu := hu_of hr
    refine ⟨_, (pss_cons (ps_set (i := 1) sc__law_begun.nd rfl (by first | exact Or.inl rfl | exact Or.inr rfl) pe_dnewK)
        (pss_cons (ps_for PassesOwn.never rfl (pi_keys (pe_lockF (pe_callF G__law_ends hr pass0 (pa_cons (pv 0) pa_nil)))) (pg_name (i := 2) sc__law_begun.nd rfl (by first | exact Or.inl rfl | exact Or.inr rfl)) (pss_one (ps_dput hu (pv 1) (pv 2) (pe_tup (pa_cons pe_bl (pa_cons pe_int (pa_cons pe_bl pa_nil)))) rfl)))
        (pss_one (ps_ret (pv 1))))), ?_⟩
    walk_at "rd"
    intro d nd
    have s1 := Same.new (o := .dK []) nd
    have hd1 := upd_same (H := H) (a := d) (o := .dK [])
    show tFor _ _ _ _ [some (.ref p), some (.ref d), none] (upd H d (.dK []))
    generalize upd H d (.dK []) = H1 at s1 hd1 ⊢
    refine ⟨_, rfl, p, ws, l.rs, rfl, s1 _ _ hp, two_rt s1 htw, hl, fun H2 q kvsE s2 nq hq hE => ⟨q, _, rfl, hq, fun od => ?_⟩⟩
    have e2 : Same H1 (upd H2 q (.frz od (.dK (dL id kvsE)))) := Same.mut s2 nq
    have hqf := upd_same (H := H2) (a := q) (o := .frz od (.dK (dL id kvsE)))
    show (fun x H1 => _) (V.ref q) (upd H2 q (.frz od (.dK (dL id kvsE))))
    have dq : q ≠ d := (ne_of_none hd1 nq).symm
    have hdF := e2 _ _ hd1
    have s1F := s1.trans e2
    generalize upd H2 q (.frz od (.dK (dL id kvsE))) = F at e2 hqf hdF s1F ⊢
    have hwn := writ_nodup l.rs
    have hwl := writ_len l.rs
    have hEl : kvsE.length = (writ l.rs).length := by
      have := congrArg List.length hE.keys
      rw [len_keys] at this
      exact this
    refine ⟨q, od, rfl, .inl ⟨_, hqf, for_it walk_keys (fun i σ H' => ∃ (v2 : Option V) (kvs : List (Str × V)), σ = [some (.ref p), some (.ref d), v2] ∧ Same H H' ∧ H' q = some (.frz od (.dK (dL id kvsE))) ∧ H' d = some (.dK (dL id kvs)) ∧ MemD H' kvs (((writ l.rs).take i).map fun n => (n, (false, 0, false)))) ⟨none, [], rfl, s1F, hqf, hdF, ⟨rfl, fun n m e => by cases e⟩⟩ (fun i σ H' _ ⟨_, _, _, _, z, _⟩ => z) ?_ ?_⟩⟩
    · rintro i y σ H6 H6x hi ⟨v2, kvs, rfl, s6, hq6, hd6, hM6⟩ ⟨rfl, kk, vv, hkv, rfl⟩
      unfold dL at hkv
      rw [List.getElem?_map] at hkv
      obtain ⟨⟨n, v⟩, hnv, e⟩ := Option.map_eq_some_iff.mp hkv
      cases e
      have hnw : (writ l.rs)[i]? = some n := by rw [← hE.keys]; exact keys_at hnv
      walk_at "rd"
      have hkl : kvs.length ≤ 30 := by
        have h1 := congrArg List.length hM6.keys
        rw [len_keys, len_keys, List.length_map, List.length_take] at h1
        omega
      have hnew : n ∉ keysL kvs := by rw [hM6.keys, keys_map]; exact take_new hwn hnw
      refine ⟨line_ge (by decide), fun t1 nt1 => ?_⟩
      have u1 := Same.new (o := .tup [.bl false, .int 0, .bl false]) nt1
      have hd8 := u1 _ _ hd6
      have hM8 := (hM6.mono (T := fun _ => False) (Same.imm u1)).put (n := n) (m := (false, 0, false)) (upd_same (H := H6x) (a := t1) (o := .tup [.bl false, .int 0, .bl false]))
      refine ⟨_, rfl, _, rfl, d, _, rfl, DPut.k (k := .inr n) hd8 (by rw [dL_len, sizeLine_eq]; omega), ?_⟩
      have ep : putK (dL id kvs) (Sum.inr n : Key) (V.ref t1) = dL id (putL kvs n (V.ref t1)) := dL_put
      rw [ep]
      refine ⟨_, rfl, Same.mut (s6.trans u1) nd, (upd_ne dq).trans (u1 _ _ hq6), _, upd_same, ?_⟩
      have em : putL (((writ l.rs).take i).map fun n => (n, (false, (0 : Int), false))) n (false, 0, false) = ((writ l.rs).take (i + 1)).map fun n => (n, (false, 0, false)) := by
        rw [keys_new (by rw [keys_map]; exact take_new hwn hnw), List.take_succ, hnw, List.map_append]
        rfl
      rw [← em]
      exact hM8.mut hd8 fun ws e => nomatch e
    rintro σ G ⟨v2, kvs, rfl, s6, hq6, hd6, hM6⟩
    walk_at "rd"
    rw [dL_len, hEl, List.take_length] at hM6
    exact k G d kvs s6 hd6 hM6
def spScanned : Sp := fun vs H Q _ => ∃ (t d ti to p : Addr) (ws : List V) (l : Lad) (kvs : List (Str × V)) (k : Ws) (n : Nat), vs = [.ref t, .ref d, .int (n : Nat)] ∧ IsM H t ti to p ws l ∧ H d = some (.dK (dL id kvs)) ∧ MemD H kvs (memOf (writ l.rs) k) ∧ KFits l k ∧ l.good ∧ l.fit ∧
  ∀ (H' : Hp) (r d2 : Addr) (kvs2 : List (Str × V)), Same H H' → H' r = some (.tup [.ref d2, .int (numB (scanP l (backW l k) (rowT n l.ins.length)).2 : Nat)]) → H' d2 = some (.dK (dL id kvs2)) → MemD H' kvs2 (memOf (writ l.rs) (scanP l (backW l k) (rowT n l.ins.length)).1) → Q (.ref r) H'
theorem ok_scanned (T : TLScan K mg) : FnAt P w K mg base CX0 "_law_scanned" 23 ["_law_model", "_law_memory", "_law_number"] spScanned := by
  have G__law_acted := ok_acted (P := P) (w := w) (base := base) T
  have G__law_holds := ok_lholds (P := P) (w := w) (base := base) T.lh 20
  refine fnAt_ok T.d_scanned sc__law_scanned (fun vs H Q E h => ?_) (fun f cdv A outer s H vs Q E hr h => ?_)
  · obtain ⟨t, d, ti, to, p, ws, l, kvs, k, n, rfl, _⟩ := h; rfl
  · obtain ⟨t, d, ti, to, p, ws, l, kvs, kw, n, rfl, hM, hd, hMD, kf, hg, lf, k⟩ := h
    have hu := hu_of hr
    obtain ⟨f1, f2, f3, f4, f5, f6, f7, f8, f9⟩ := (fair_iff l).mp hg.fair
    refine ⟨_, (pss_cons (ps_asg (pv 0) (pg_tup rfl (pgs_cons (pg_name (i := 3) sc__law_scanned.nd rfl (by first | exact Or.inl rfl | exact Or.inr rfl)) (pgs_cons (pg_name (i := 4) sc__law_scanned.nd rfl (by first | exact Or.inl rfl | exact Or.inr rfl)) (pgs_cons (pg_name (i := 5) sc__law_scanned.nd rfl (by first | exact Or.inl rfl | exact Or.inr rfl)) pgs_nil)))))
        (pss_cons (ps_set (i := 1) sc__law_scanned.nd rfl (by first | exact Or.inl rfl | exact Or.inr rfl) (pe_callTy call_dictD (by rfl) T.z_dict (show PySem.bootBuiltins "dict" = some (.type "dict") by decide +kernel) (pa_cons (pv 1) pa_nil)))
        (pss_cons (ps_set (i := 6) sc__law_scanned.nd rfl (by first | exact Or.inl rfl | exact Or.inr rfl) pe_dnewK)
        (pss_cons (ps_for PassesOwn.never rfl (pi_range1 rfl T.z_range (pa_cons (pe_callB call_len_seq (by rfl) T.z_len PySem.boot_len (pa_cons (pv 3) pa_nil)) pa_nil)) (pg_name (i := 7) sc__law_scanned.nd rfl (by first | exact Or.inl rfl | exact Or.inr rfl)) (pss_one (ps_dput hu (pv 6) (pe_ix ix_tup (pv 3) (pv 7) (fun _ _ => rfl)) (pe_cmpR op_eq (pe_op op_and (pe_op op_shr (pv 2) (pv 7)) pe_int) pe_int (nomark _)) rfl)))
        (pss_cons (ps_lock (ps_for PassesOwn.never rfl (pi_items (pv 1)) (pg_tup rfl (pgs_cons (pg_name (i := 8) sc__law_scanned.nd rfl (by first | exact Or.inl rfl | exact Or.inr rfl)) (pgs_cons (pg_name (i := 9) sc__law_scanned.nd rfl (by first | exact Or.inl rfl | exact Or.inr rfl)) pgs_nil))) (pss_one (ps_dput hu (pv 6) (pv 8) (pe_ix ix_tup (pv 9) pe_int (fun _ _ => rfl)) rfl))))
        (pss_cons (ps_set (i := 10) sc__law_scanned.nd rfl (by first | exact Or.inl rfl | exact Or.inr rfl) pe_int)
        (pss_cons (ps_for PassesOwn.never rfl (pi_range1 rfl T.z_range (pa_cons (pe_callB call_len_seq (by rfl) T.z_len PySem.boot_len (pa_cons (pv 5) pa_nil)) pa_nil)) (pg_name (i := 7) sc__law_scanned.nd rfl (by first | exact Or.inl rfl | exact Or.inr rfl)) (pss_cons (ps_asg (pe_ix ix_list (pv 5) (pv 7) (fun _ _ => rfl)) (pg_tup rfl (pgs_cons (pg_name (i := 11) sc__law_scanned.nd rfl (by first | exact Or.inl rfl | exact Or.inr rfl)) (pgs_cons (pg_name (i := 12) sc__law_scanned.nd rfl (by first | exact Or.inl rfl | exact Or.inr rfl)) pgs_nil))))
          (pss_cons (ps_set (i := 13) sc__law_scanned.nd rfl (by first | exact Or.inl rfl | exact Or.inr rfl) (pe_callF G__law_holds hr pass0 (pa_cons (pv 11) (pa_cons (pv 6) pa_nil))))
          (pss_cons (ps_dput hu (pv 1) (pe_ix ix_tup (pv 12) pe_int (fun _ _ => rfl)) (pe_callF G__law_acted hr pass0 (pa_cons (pv 12) (pa_cons (pe_dget (by exact hu) (pv 1) (pe_ix ix_tup (pv 12) pe_int (fun _ _ => rfl)) (fun _ _ => rfl)) (pa_cons (pv 13) pa_nil)))) rfl)
          (pss_cons (ps_dput hu (pv 6) (pe_ix ix_tup (pv 12) pe_int (fun _ _ => rfl)) (pe_ix ix_tup (pe_dget (by exact hu) (pv 1) (pe_ix ix_tup (pv 12) pe_int (fun _ _ => rfl)) (fun _ _ => rfl)) pe_int (fun _ _ => rfl)) rfl)
          (pss_one (ps_aug (i := 10) sc__law_scanned.nd rfl (by first | exact Or.inl rfl | exact Or.inr rfl) (pe_op op_shl (pe_callTy call_int1 (by rfl) T.z_int (show PySem.bootBuiltins "int" = some (.type "int") by decide +kernel) (pa_cons (pv 13) pa_nil)) (pv 7)) iop_add)))))))
        (pss_one (ps_ret (pe_tup (pa_cons (pv 1) (pa_cons (pv 10) pa_nil)))))))))))), ?_⟩
    walk_at "rd"
    refine ⟨t, _, rfl, SqT.of hM.at_, rfl, ?_⟩
    walk_at "rd"
    refine ⟨_, .inl hd, fun d2 nd2 => ?_⟩
    have sa := Same.new (o := .dK (dL id kvs)) nd2
    have hd2 := upd_same (H := H) (a := d2) (o := .dK (dL id kvs))
    have hMD2 : MemD (upd H d2 (.dK (dL id kvs))) kvs (memOf (writ l.rs) kw) := hMD.mono (T := fun _ => False) (Same.imm sa)
    generalize upd H d2 (.dK (dL id kvs)) = Ha at sa hd2 hMD2 ⊢
    intro pb npb
    have sb := Same.new (o := .dK []) npb
    have hb3 := upd_same (H := Ha) (a := pb) (o := .dK [])
    have hd3 := sb _ _ hd2
    have hMD3 := hMD2.mono (T := fun _ => False) (Same.imm sb)
    have ndb : d2 ≠ pb := ne_of_none hd2 npb
    have npb0 : H pb = none := sa.free npb
    show tFor _ _ _ _ _ (upd Ha pb (.dK []))
    generalize upd Ha pb (.dK []) = Hb at sb hb3 hd3 hMD3 ⊢
    have s0b := sa.trans sb
    have hwn := writ_nodup l.rs
    have hwl := writ_len l.rs
    have hrl := rowT_len n l.ins.length
    refine ⟨_, rfl, ti, rfl, _, .inr (SqT.of (s0b _ _ hM.hi)), ?_⟩
    rw [List.length_map]
    refine ⟨_, rfl, by omega, by omega, ?_⟩
    rw [show ((l.ins.length : Nat) : Int).toNat = l.ins.length from rfl]
    refine for_range (lo := 0) (n := l.ins.length) (fun i σ H' => ∃ v7 : Option V, σ = [some (.ref t), some (.ref d2), some (.int (n : Nat)), some (.ref ti), some (.ref to), some (.ref p), some (.ref pb), v7, none, none, none, none, none, none] ∧ Same Ha H' ∧ H' pb = some (.dK (dL V.bl ((l.ins.zip (rowT n l.ins.length)).take i)))) ⟨none, rfl, sb, hb3⟩ ?_ ?_
    · rintro i σ Hc hi ⟨v7, rfl, sc, hbc⟩
      walk_at "rd"
      obtain ⟨nm, hnm⟩ : ∃ nm, l.ins[i]? = some nm := ⟨_, List.getElem?_eq_getElem hi⟩
      have hri : (rowT n l.ins.length)[i]? = some (bitI n i) := by
        unfold rowT
        rw [List.getElem?_map, List.getElem?_range hi]
        rfl
      have hzi : (l.ins.zip (rowT n l.ins.length))[i]? = some (nm, bitI n i) := List.getElem?_zip_eq_some.mpr ⟨hnm, hri⟩
      have hzk : keysL ((l.ins.zip (rowT n l.ins.length)).take i) = l.ins.take i := by
        unfold keysL
        rw [List.map_take]
        exact congrArg (List.take i) (zip_keys hrl)
      have hzl : ((l.ins.zip (rowT n l.ins.length)).take i).length ≤ 6 := by
        rw [List.length_take, List.length_zip]
        omega
      have hti := (sa.trans sc) _ _ hM.hi
      refine ⟨_, rfl, _, rfl, _, _, rfl, rfl, (by omega : (0 : Int) ≤ 0 + (i : Int)), _, _, rfl, rfl, scal_ii, ?_⟩
      rw [Int.zero_add, dec_int, bit_dec]
      refine ⟨_, rfl, _, rfl, _, rfl, ti, _, _, .str nm, rfl, rfl, SqT.of hti, atI_nat (by rw [List.getElem?_map, hnm]; rfl), pb, _, rfl, DPut.k (k := .inr nm) hbc (by rw [dL_len, sizeLine_eq]; omega), ?_⟩
      rw [dL_put, keys_new (by rw [hzk]; exact take_new f2 hnm)]
      refine ⟨_, rfl, Same.mut sc npb, ?_⟩
      rw [upd_same, List.take_succ, hzi]
      rfl
    rintro σ Hc ⟨v7, rfl, sc, hbc⟩
    rw [List.take_of_length_le (by rw [List.length_zip]; omega)] at hbc
    walk_at "rd"
    have hd2c := sc _ _ hd2
    have s0c := sa.trans sc
    generalize hz : l.ins.zip (rowT n l.ins.length) = zr at hbc
    have hzk : keysL zr = l.ins := by rw [← hz]; exact zip_keys hrl
    have hzl : zr.length ≤ 6 := by
      have := congrArg List.length hzk
      rw [len_keys] at this
      omega
    refine ⟨d2, _, hd2c, True.intro, fun od => ?_⟩
    have hqf := upd_same (H := Hc) (a := d2) (o := .frz od (.dK (dL id kvs)))
    have s0F : Same H (upd Hc d2 (.frz od (.dK (dL id kvs)))) := Same.mut s0c nd2
    have hbF : upd Hc d2 (.frz od (.dK (dL id kvs))) pb = some (.dK (dL V.bl zr)) := (upd_ne ndb.symm).trans hbc
    generalize upd Hc d2 (.frz od (.dK (dL id kvs))) = F at hqf s0F hbF ⊢
    have hkl : kvs.length = (writ l.rs).length := by
      have := congrArg List.length hMD.keys
      rw [memOf_keys, len_keys] at this
      exact this
    refine ⟨_, rfl, d2, od, _, rfl, hqf, for_it walk_items (fun i σ H' => ∃ v8 v9 : Option V, σ = [some (.ref t), some (.ref d2), some (.int (n : Nat)), some (.ref ti), some (.ref to), some (.ref p), some (.ref pb), v7, v8, v9, none, none, none, none] ∧ Same H H' ∧ H' d2 = some (.frz od (.dK (dL id kvs))) ∧ H' pb = some (.dK (dL V.bl (zr ++ ((writ l.rs).take i).map fun n => (n, kw.bitOf n)))))
      ⟨none, none, rfl, s0F, hqf, by rw [List.take_zero, List.map_nil, List.append_nil]; exact hbF⟩ (fun i σ H' _ ⟨_, _, _, _, z, _⟩ => z) ?_ ?_⟩
    · rintro i y σ H6 H6x hi' ⟨v8, v9, rfl, s6, hq6, hb6⟩ ⟨T', y1, z, rfl, nT, rfl, hy, hz'⟩
      obtain ⟨nm, v, hnv, rfl, ez⟩ := item_at hy hz'
      have ez : z = v := ez
      subst ez
      have hnw : (writ l.rs)[i]? = some nm := by
        have := keys_at hnv
        rw [hMD.keys, memOf_keys] at this
        exact this
      have hnm := List.mem_of_getElem? hnw
      have hgv := getL_at (by rw [hMD.keys, memOf_keys]; exact hwn) hnv
      refine ⟨T', _, rfl, SqT.of upd_same, rfl, ?_⟩
      walk_at "rd"
      have t7 := Same.new (o := .tup [V.str nm, z]) nT
      have s7 := s6.trans t7
      have hq7 := t7 _ _ hq6
      have hb7 := t7 _ _ hb6
      generalize upd H6 T' (.tup [V.str nm, z]) = H7 at s7 hq7 hb7 ⊢
      obtain ⟨tm, htm, htmt⟩ := hMD.at_ nm _ (show getL (memOf (writ l.rs) kw) nm = some (kw.memAt nm) by rw [memOf_get, if_pos hnm])
      rw [hgv] at htm
      cases htm
      have hnew : nm ∉ keysL (zr ++ ((writ l.rs).take i).map fun n => (n, kw.bitOf n)) := by
        rw [keysL, List.map_append, ← keysL, ← keysL, hzk, keys_map]
        intro q
        rcases List.mem_append.mp q with q | q
        · exact lf.apart _ q hnm
        · exact take_new hwn hnw q
      have hbl : (zr ++ ((writ l.rs).take i).map fun n => (n, kw.bitOf n)).length ≤ 60 := by
        rw [List.length_append, List.length_map, List.length_take]
        omega
      refine ⟨_, rfl, tm, _, 0, .bl (kw.bitOf nm), rfl, rfl, SqT.of (s7 _ _ htmt), atI_int (by decide) rfl, _, rfl, _, rfl, pb, _, rfl, DPut.k (k := .inr nm) hb7 (by rw [dL_len, sizeLine_eq]; omega), ?_⟩
      rw [dL_put, keys_new hnew]
      refine ⟨_, _, rfl, Same.mut s7 npb0, (upd_ne ndb).trans hq7, ?_⟩
      rw [upd_same, List.take_succ, hnw, List.map_append, List.append_assoc]
      rfl
    rintro σ G ⟨v8, v9, rfl, s6, hq6, hb6⟩
    refine ⟨hq6, ?_⟩
    have sG : Same H (upd G d2 (.dK (dL id kvs))) := Same.mut s6 nd2
    have hdG := upd_same (H := G) (a := d2) (o := .dK (dL id kvs))
    have hbG : upd G d2 (.dK (dL id kvs)) pb = some (.dK (dL V.bl (atRow l kw (rowT n l.ins.length)).bits)) := by
      rw [upd_ne ndb.symm, hb6, dL_len, hkl, List.take_length]
      show _ = some (HO.dK (dL V.bl (putRow (backW l kw).bits (l.ins.zip (rowT n l.ins.length)))))
      rw [row_bits kf lf f2 hrl, hz]
    have hMG : MemD (upd G d2 (.dK (dL id kvs))) kvs (memOf (writ l.rs) (atRow l kw (rowT n l.ins.length))) := by
      rw [memOf_row lf]
      exact hMD.mono (T := fun _ => False) (Same.imm sG)
    generalize upd G d2 (.dK (dL id kvs)) = G2 at sG hdG hbG hMG ⊢
    clear hb6 hq6 s6 hbF s0F hqf hd2c hbc
    rw [scanP_row] at k
    generalize hu1 : atRow l kw (rowT n l.ins.length) = u1 at hbG hMG k
    have fu1 : Fits l u1 := by
      rw [← hu1]
      exact (backW_fits kf).row (rowT n l.ins.length)
    walk_at "rd"
    have hrsl := hM.two.length
    refine ⟨_, rfl, p, rfl, _, .inl (SqL.of (sG _ _ hM.hp)), ?_⟩
    rw [hrsl]
    refine ⟨_, rfl, by omega, by omega, ?_⟩
    rw [show ((l.rs.length : Nat) : Int).toNat = l.rs.length from rfl]
    refine for_range (lo := 0) (n := l.rs.length) (fun i σ H' => ∃ (v7 v11 v12 v13 : Option V) (kvs' : List (Str × V)), σ = [some (.ref t), some (.ref d2), some (.int (n : Nat)), some (.ref ti), some (.ref to), some (.ref p), some (.ref pb), v7, v8, v9, some (.int (numB (goRungs u1 (l.rs.take i)).2 : Nat)), v11, v12, v13] ∧ Same H H' ∧ H' d2 = some (.dK (dL id kvs')) ∧ MemD H' kvs' (memOf (writ l.rs) (goRungs u1 (l.rs.take i)).1) ∧ H' pb = some (.dK (dL V.bl (goRungs u1 (l.rs.take i)).1.bits))) ⟨_, _, _, _, kvs, rfl, sG, hdG, hMG, hbG⟩ ?_ ?_
    · rintro i σ H3 hi ⟨v7', v11, v12, v13, kvs', rfl, s3, hd3', hM3, hb3'⟩
      obtain ⟨vr, hvr⟩ : ∃ vr, ws[i]? = some vr := ⟨_, List.getElem?_eq_getElem (by omega)⟩
      obtain ⟨r, hr', tp, te, xc', rfl, htp, hte, hxc⟩ := hM.two.at hvr
      have hrm := List.mem_of_getElem? hr'
      obtain ⟨o1, o2, o3, o4, o5, o6⟩ := hg.ok r hrm
      have fui := fu1.go i
      have hgl := goRungs_len u1 (l.rs.take i)
      rw [List.length_take, Nat.min_eq_left (by omega)] at hgl
      rw [List.take_succ, hr']
      show tSeq _ _ _ _ _
      have esn : goRungs u1 (l.rs.take i ++ (some r).toList) = (act (goRungs u1 (l.rs.take i)).1 r.e (r.c.holds (goRungs u1 (l.rs.take i)).1.im), (goRungs u1 (l.rs.take i)).2 ++ [r.c.holds (goRungs u1 (l.rs.take i)).1.im]) := goRungs_snoc _ _ _
      rw [esn]
      dsimp only
      rw [numB_snoc, hgl]
      generalize hui : goRungs u1 (l.rs.take i) = gi at hM3 hb3' fui hgl ⊢
      obtain ⟨ui, hl'⟩ := gi
      dsimp only at hM3 hb3' fui hgl ⊢
      have hnw : r.e.n ∈ writ l.rs := (writ_mem _).mpr ⟨r, hrm, rfl⟩
      have hnb : r.e.n ∈ keysL ui.bits := fui.bit hrm
      have hndb : (keysL ui.bits).Nodup := by
        rw [fui.kb]
        exact List.nodup_append.mpr ⟨f2, hwn, fun a ha b hb e => lf.apart a ha (e ▸ hb)⟩
      have hbll := fui.bits_len
      walk_at "rd"
      rw [Int.zero_add]
      refine ⟨p, ws, _, .ref tp, rfl, rfl, SqL.of (s3 _ _ hM.hp), atI_nat hvr, tp, _, rfl, SqT.of (s3 _ _ htp), rfl, ?_⟩
      walk_at "rd"
      refine ⟨xc', pb, r.c, _, rfl, hxc.mono (T := fun _ => False) (Same.imm s3), hb3', good_bits hndb (by omega), o3, by omega, fun H4 s4 => ?_⟩
      rw [im_bits ui.bits ui.cnt ui.seen]
      show sDPut _ _ _ _ [_, _, _, _, _, _, _, _, _, _, _, _, _, some (V.bl (r.c.holds ui.im))] H4
      generalize r.c.holds ui.im = hv
      have s04 := s3.trans s4
      have hd4 := s4 _ _ hd3'
      have hb4 := s4 _ _ hb3'
      have hte4 := s04 _ _ hte
      have hM4 := hM3.mono (T := fun _ => False) (Same.imm s4)
      obtain ⟨tm, htm, htmt⟩ := hM4.at_ r.e.n (ui.memAt r.e.n) (by rw [memOf_get, if_pos hnw])
      have hkl' : kvs'.length ≤ 30 := by
        have := congrArg List.length hM3.keys
        rw [memOf_keys, len_keys] at this
        omega
      refine ⟨_, rfl, _, rfl, _, rfl, te, _, 1, .str r.e.n, rfl, rfl, SqT.of hte4, atI_int (by decide) rfl, d2, .ref tm, rfl, .inl ⟨_, .inr r.e.n, .inl hd4, rfl, by rw [dL_get, htm]; rfl⟩, _, rfl, te, tm, r.e, ui.memAt r.e.n, hv, rfl, hte4, htmt, fun H5 ta s5 hta => ?_⟩
      have hd5 := s5 _ _ hd4
      have hb5 := s5 _ _ hb4
      have s05 := s04.trans s5
      have hM5 := (hM4.mono (T := fun _ => False) (Same.imm s5)).put (n := r.e.n) hta
      rw [← memOf_act hwn ui r.e hv hnw] at hM5
      refine ⟨_, rfl, _, rfl, te, _, 1, .str r.e.n, rfl, rfl, SqT.of (s05 _ _ hte), atI_int (by decide) rfl, d2, _, rfl, DPut.k (k := .inr r.e.n) hd5 (by rw [dL_len, sizeLine_eq]; omega), ?_⟩
      have ep : putK (dL id kvs') (Sum.inr r.e.n : Key) (V.ref ta) = dL id (putL kvs' r.e.n (V.ref ta)) := dL_put
      rw [ep]
      have hM6 : MemD (upd H5 d2 (.dK (dL id (putL kvs' r.e.n (V.ref ta))))) (putL kvs' r.e.n (V.ref ta)) (memOf (writ l.rs) (act ui r.e hv)) := hM5.mut hd5 fun ws e => nomatch e
      have s06 := Same.mut (o := .dK (dL id (putL kvs' r.e.n (V.ref ta)))) s05 nd2
      have hd6 := upd_same (H := H5) (a := d2) (o := .dK (dL id (putL kvs' r.e.n (V.ref ta))))
      have hb6 : upd H5 d2 (.dK (dL id (putL kvs' r.e.n (V.ref ta)))) pb = _ := (upd_ne ndb.symm).trans hb5
      have hta6 : upd H5 d2 (.dK (dL id (putL kvs' r.e.n (V.ref ta)))) ta = some (memV (actM r.e (ui.memAt r.e.n) hv)) := (upd_ne (fun e => by rw [e, hd5] at hta; cases hta)).trans hta
      generalize upd H5 d2 (.dK (dL id (putL kvs' r.e.n (V.ref ta)))) = H6 at hM6 s06 hd6 hb6 hta6 ⊢
      walk_at "rd"
      refine ⟨_, rfl, _, rfl, te, _, 1, .str r.e.n, rfl, rfl, SqT.of (s06 _ _ hte), atI_int (by decide) rfl, d2, .ref ta, rfl, .inl ⟨_, .inr r.e.n, .inl hd6, rfl, by rw [dL_get, getL_put, if_pos rfl]; rfl⟩, ta, _, 0, .bl (actM r.e (ui.memAt r.e.n) hv).1, rfl, rfl, SqT.of hta6, atI_int (by decide) rfl, ?_⟩
      refine ⟨_, rfl, _, rfl, te, _, 1, .str r.e.n, rfl, rfl, SqT.of (s06 _ _ hte), atI_int (by decide) rfl, pb, _, rfl, DPut.k (k := .inr r.e.n) hb6 (by rw [dL_len, sizeLine_eq]; omega), ?_⟩
      rw [dL_put, ← act_bits hndb hnb]
      have s07 := Same.mut (o := .dK (dL V.bl (act ui r.e hv).bits)) s06 npb0
      have hb7 := upd_same (H := H6) (a := pb) (o := .dK (dL V.bl (act ui r.e hv).bits))
      have hd7 : upd H6 pb (.dK (dL V.bl (act ui r.e hv).bits)) d2 = _ := (upd_ne ndb).trans hd6
      have hM7 : MemD (upd H6 pb (.dK (dL V.bl (act ui r.e hv).bits))) (putL kvs' r.e.n (V.ref ta)) (memOf (writ l.rs) (act ui r.e hv)) := hM6.mut hb6 fun ws e => nomatch e
      generalize upd H6 pb (.dK (dL V.bl (act ui r.e hv).bits)) = H7 at s07 hb7 hd7 hM7 ⊢
      walk_at "rd"
      refine ⟨⟨by omega, by omega, by split <;> decide⟩, _, _, _, _, ⟨rfl, ?_, rfl, rfl, rfl⟩, s07, _, hd7, hM7, hb7⟩
      rw [Int.toNat_natCast, Int.natCast_add, Int.natCast_mul, Int.natCast_pow]
      cases hv <;> rfl
    rintro σ G3 ⟨v7', v11, v12, v13, kvs', rfl, s3, hd3', hM3, hb3'⟩
    rw [List.take_length] at hM3 hb3'
    rw [List.take_length]
    walk_at "rd"
    exact ⟨line_ge (by decide), fun rr nrr => k _ rr d2 kvs' (s3.trans (Same.new nrr)) upd_same (Same.new nrr _ _ hd3') (hM3.mono (T := fun _ => False) (Same.imm (Same.new nrr)))⟩
end

--%% NP
/-! ## rows of truths, held against each other -/
theorem shaped_of {d : PyData} (h : d.canLay0 = true) (hd : d.depth ≤ 64) : SeqAt.shaped d = true := by
  unfold SeqAt.shaped
  rw [h, decide_eq_true hd]
  rfl
theorem bools_dp {K : PySem.W.Frag} {H : Hp} : ∀ l : List Bool, DpAll K H (l.map V.bl) (l.map PyData.bool)
  | [] => .nil
  | n :: l => .cons (.bl n) (bools_dp l)
theorem bools_lay : ∀ {l : List Bool}, PyData.canLayAll0 (l.map PyData.bool) = true
  | [] => rfl
  | n :: l => by
    show (true && PyData.canLayAll0 (l.map PyData.bool)) = true
    rw [bools_lay]
    rfl
theorem bools_flat : ∀ l : List Bool, PyData.depthAll (l.map PyData.bool) = 0
  | [] => rfl
  | n :: l => by
    rw [List.map_cons, PyData.depthAll, bools_flat l]
    rfl
theorem bools_shaped {l : List Bool} : SeqAt.shaped (.tuple (l.map PyData.bool)) = true := shaped_of bools_lay (by rw [PyData.depth, bools_flat]; omega)
theorem bools_eqv {l : List Bool} : PyData.eqv (.tuple (l.map PyData.bool)) (.tuple (l.map PyData.bool)) = true := SeqAt.eqv_refl _ bools_lay

/-! ## what is found, compared -/
theorem seenD_len (fs : List Ent) : (seenD (stsL fs)).length = fs.length := by unfold seenD stsL; rw [List.length_map, List.length_map]
def entD (e : Ent) : PyData := .tuple [.int (e.1 : Nat), .int e.2.1, .int e.2.2]
theorem ents_dp {K : PySem.W.Frag} {H : Hp} : ∀ {ws : List V} {fs : List Ent}, Two (IsEnt H) ws fs → DpAll K H ws (fs.map entD)
  | [], [], _ => .nil
  | w :: ws, e :: fs, h => by
    cases h with
    | cons h1 h2 =>
      obtain ⟨t, rfl, h1⟩ := h1
      exact .cons (.tup (SqT.of h1) (.cons (.int _) (.cons (.int _) (.cons (.int _) .nil)))) (ents_dp h2)
  | [], _ :: _, h => nomatch h
  | _ :: _, [], h => nomatch h
theorem ents_lay : ∀ fs : List Ent, PyData.canLayAll0 (fs.map entD) = true
  | [] => rfl
  | e :: fs => by
    show (PyData.canLay0 (entD e) && PyData.canLayAll0 (fs.map entD)) = true
    rw [ents_lay fs]
    rfl
theorem ents_flat : ∀ fs : List Ent, PyData.depthAll (fs.map entD) ≤ 1
  | [] => by simp [PyData.depthAll]
  | e :: fs => by
    rw [List.map_cons, PyData.depthAll]
    have := ents_flat fs
    have e2 : PyData.depth (entD e) = 1 := rfl
    rw [e2]
    omega
theorem ents_shaped (fs : List Ent) : SeqAt.shaped (.list (fs.map entD)) = true := shaped_of (ents_lay fs) (by
  rw [PyData.depth]
  have := ents_flat fs
  omega)
theorem ents_eqv (fs : List Ent) : PyData.eqv (.list (fs.map entD)) (.list (fs.map entD)) = true := SeqAt.eqv_refl _ (ents_lay fs)
theorem nats_dp {K : PySem.W.Frag} {H : Hp} : ∀ l : List Nat, DpAll K H (l.map fun n : Nat => V.int n) (l.map fun n : Nat => PyData.int n)
  | [] => .nil
  | n :: l => .cons (.int _) (nats_dp l)
theorem nats_lay : ∀ l : List Nat, PyData.canLayAll0 (l.map fun n : Nat => PyData.int n) = true
  | [] => rfl
  | n :: l => by
    show (true && PyData.canLayAll0 (l.map fun n : Nat => PyData.int n)) = true
    rw [nats_lay l]
    rfl
theorem nats_flat : ∀ l : List Nat, PyData.depthAll (l.map fun n : Nat => PyData.int n) = 0
  | [] => rfl
  | n :: l => by
    rw [List.map_cons, PyData.depthAll, nats_flat l]
    rfl
theorem nats_shaped (l : List Nat) : SeqAt.shaped (.list (l.map fun n : Nat => PyData.int n)) = true := shaped_of (nats_lay l) (by rw [PyData.depth, nats_flat]; omega)
theorem nats_eqv (l : List Nat) : PyData.eqv (.list (l.map fun n : Nat => PyData.int n)) (.list (l.map fun n : Nat => PyData.int n)) = true := SeqAt.eqv_refl _ (nats_lay l)
theorem ent_shaped (e : Ent) : SeqAt.shaped (entD e) = true := shaped_of rfl (by show 1 ≤ 64; decide)
theorem ent_eqv (e : Ent) : PyData.eqv (entD e) (entD e) = true := SeqAt.eqv_refl _ rfl

/-! ## the memory of new works -/
theorem new_mem {l : Lad} {n : Str} (hn : n ∈ writ l.rs) : (keptW l (wNew l)).memAt n = (false, 0, false) := by
  have hb : (keptW l (wNew l)).bitOf n = false := by
    rw [kept_bit hn]
    show (getL ((l.ins ++ writ l.rs).map fun n => (n, false)) n).getD false = false
    rw [getL_map]
    split <;> rfl
  have h1 : (keptW l (wNew l)).cntOf n = 0 := by
    show (getL (cnt0 l.rs) n).getD 0 = 0
    cases h : getL (cnt0 l.rs) n with
    | none => rfl
    | some v => rw [cnt0_get _ _ _ h]; rfl
  have h2 : (keptW l (wNew l)).seenOf n = false := by
    have key : ∀ rs n v, getL (seen0 rs) n = some v → v = false := fun rs => writ_ind (p := fun rs => ∀ n v, getL (seen0 rs) n = some v → v = false) (fun n v h => by cases h) (fun rs r ih n v h => by
      rw [seen0_snoc] at h
      split at h
      · rw [getL_put] at h
        split at h
        · cases h; rfl
        · exact ih n v h
      · exact ih n v h) rs
    show (getL (seen0 l.rs) n).getD false = false
    cases h : getL (seen0 l.rs) n with
    | none => rfl
    | some v => rw [key _ _ _ h]; rfl
  unfold Ws.memAt
  rw [hb, h1, h2]
theorem mem_new (l : Lad) : memOf (writ l.rs) (keptW l (wNew l)) = (writ l.rs).map fun n => (n, (false, 0, false)) := List.map_congr_left fun n hn => by
  show (n, (keptW l (wNew l)).memAt n) = _
  rw [new_mem hn]

--%% NQ
/-! ## how many states a small ladder has -/
theorem mem_bit (b : Bool) : (if b = true then 1 else 0 : Nat) = b.toNat := by cases b <;> rfl
/-- Done: what is found is closed -/
theorem Done.closed {S : Nat → Nat → Nat} {R N : Nat} (d : Done S R N) {s r : Nat} (hs : s ∈ stsL (lev S R N)) (hr : r < R) : S s r ∈ stsL (lev S R N) := by
  obtain ⟨e, he, rfl⟩ := List.mem_map.mp hs
  obtain ⟨a, ha⟩ := List.getElem?_of_mem he
  have haN : a < N := by
    have := (List.getElem?_eq_some_iff.mp ha).1
    rw [d.len] at this
    exact this
  have hlt := d.run a haN
  have hst : ∀ n, stAt (goRow S (lev S R a) a n) a = e.1 := fun n => by
    have hp1 := goRow_pre (S := S) (lev S R a) a n
    rw [pre_st hp1 hlt]
    have hp2 := lev_mono (S := S) (R := R) (Nat.le_of_lt haN)
    rw [← pre_st hp2 hlt]
    unfold stAt
    rw [List.getD_eq_getElem?_getD, ha]
    rfl
  have h1 : S e.1 r ∈ stsL (goRow S (lev S R a) a (r + 1)) := by
    rw [goRow_succ]
    unfold grow
    rw [hst r]
    split
    · assumption
    · unfold stsL
      rw [List.map_append]
      exact List.mem_append_right _ List.mem_cons_self
  have h2 : goRow S (lev S R a) a (r + 1) <+: lev S R N := by
    refine (goRow_mono _ _ (show r + 1 ≤ R by omega)).trans ?_
    have h3 : lev S R (a + 1) = goRow S (lev S R a) a R := by
      rw [lev]
      exact if_pos hlt
    rw [← h3]
    exact lev_mono (by omega)
  obtain ⟨t, ht⟩ := h2
  rw [← ht]
  unfold stsL
  rw [List.map_append]
  exact List.mem_append_left _ h1
theorem Done.zero {S : Nat → Nat → Nat} {R N : Nat} : 0 ∈ stsL (lev S R N) := List.mem_map.mpr ⟨_, List.mem_of_getElem? (lev_head N), rfl⟩
/-! ### few states -/
def valsM (M : Nat) : List Nat := List.range (M + 1) ++ (List.range (M + 1)).map (· + 16)
def prodL (M : Nat) (rs : List Rg) : List Str → List Nat
  | [] => [0]
  | n :: r => (valsM M).flatMap fun a => (prodL M rs r).map fun b => a + 2 ^ bitsOf rs n * b
theorem flat_len {α β : Type} {f : α → List β} {k : Nat} : ∀ {l : List α}, (∀ a ∈ l, (f a).length = k) → (l.flatMap f).length = l.length * k
  | [], _ => by simp
  | x :: l, h => by
    rw [List.flatMap_cons, List.length_append, h x List.mem_cons_self, flat_len fun a ha => h a (List.mem_cons_of_mem _ ha), List.length_cons, Nat.add_mul, Nat.one_mul, Nat.add_comm]
theorem prodL_len (M : Nat) (rs : List Rg) : ∀ ns, (prodL M rs ns).length = (2 * (M + 1)) ^ ns.length
  | [] => rfl
  | n :: r => by
    have hv : (valsM M).length = 2 * (M + 1) := by unfold valsM; rw [List.length_append, List.length_map, List.length_range]; omega
    rw [prodL, flat_len (k := (2 * (M + 1)) ^ r.length) fun a _ => by rw [List.length_map, prodL_len], hv, List.length_cons, Nat.pow_succ, Nat.mul_comm]
theorem state_prod {M : Nat} {rs : List Rg} {k : Ws} : ∀ {ns : List Str}, (∀ n ∈ ns, numOf k n ∈ valsM M) → stateL rs k ns ∈ prodL M rs ns
  | [], _ => List.mem_cons_self
  | n :: r, h => by
    rw [stateL, prodL]
    exact List.mem_flatMap.mpr ⟨_, h n List.mem_cons_self, List.mem_map.mpr ⟨_, state_prod fun m hm => h m (List.mem_cons_of_mem _ hm), rfl⟩⟩
theorem num_vals {l : Lad} {k : Ws} {M : Nat} (hM : 1 ≤ M) (f : KFits l k) (c : Cnted l.rs k) (hm : ∀ r ∈ l.rs, r.e.m ≤ (M : Int)) (n : Str) : numOf k n ∈ valsM M := by
  unfold numOf valsM
  split
  · rename_i hk
    rw [f.kc, ← ctE_keys0 n] at hk
    cases he : getL (ctE l.rs) n with
    | none => exact absurd hk (getL_none.mp he)
    | some e =>
      obtain ⟨r, hr, hre, _⟩ := ctE_mem _ _ _ he
      obtain ⟨h1, h2, _⟩ := c n e he
      have h3 := hm r hr
      rw [hre] at h3
      refine List.mem_append.mpr ?_
      split
      · exact .inr (List.mem_map.mpr ⟨(k.cntOf n).toNat, List.mem_range.mpr (by omega), rfl⟩)
      · exact .inl (List.mem_range.mpr (by omega))
  · refine List.mem_append.mpr (.inl (List.mem_range.mpr ?_))
    split <;> omega
theorem nodup_leS : ∀ {a b : List Str}, a.Nodup → (∀ x ∈ a, x ∈ b) → a.length ≤ b.length
  | [], _, _, _ => Nat.zero_le _
  | x :: a, b, hn, h => by
    obtain ⟨n1, n2⟩ := List.nodup_cons.mp hn
    have hx := h x List.mem_cons_self
    have h2 : a.length ≤ (b.erase x).length := nodup_leS n2 fun y hy => by
      have hne : y ≠ x := fun e => n1 (e ▸ hy)
      exact (List.mem_erase_of_ne hne).mpr (h y (List.mem_cons_of_mem _ hy))
    rw [List.length_erase_of_mem hx] at h2
    have := List.length_pos_of_mem hx
    rw [List.length_cons]
    omega
theorem few_done {l : Lad} (hg : l.good) (hf : l.few) : ∃ N, N ≤ 64 ∧ Done (stepS l) (2 ^ l.ins.length) N := by
  obtain ⟨F, hF, h3, hmem, hmost⟩ := hf
  have hw : (writ l.rs).length ≤ F.length := nodup_leS (writ_nodup l.rs) fun x hx => by
    obtain ⟨r, hr, rfl⟩ := (writ_mem _).mp hx
    exact hmem r hr
  have key : ∀ M : Nat, 1 ≤ M → (∀ r ∈ l.rs, r.e.m ≤ (M : Int)) → (2 * (M + 1)) ^ (writ l.rs).length ≤ 64 → ∃ N, N ≤ 64 ∧ Done (stepS l) (2 ^ l.ins.length) N := fun M hM hm hb => by
    refine done_of fun a => ?_
    have := lev_le (S := stepS l) (R := 2 ^ l.ins.length) (L := prodL M l.rs (writ l.rs)) (fun a s hs => by
      obtain ⟨k, kf, kc, rfl⟩ := levL_good hg a s hs
      exact state_prod fun n _ => num_vals hM kf kc hm n) a
    rw [prodL_len] at this
    omega
  by_cases h : F.length = 3
  · rw [if_pos h] at hmost
    refine key 1 (by decide) hmost ?_
    have : (2 * (1 + 1)) ^ (writ l.rs).length ≤ (2 * (1 + 1)) ^ 3 := Nat.pow_le_pow_right (by decide) (by omega)
    exact this
  · rw [if_neg h] at hmost
    refine key 3 (by decide) hmost ?_
    have : (2 * (3 + 1)) ^ (writ l.rs).length ≤ (2 * (3 + 1)) ^ 2 := Nat.pow_le_pow_right (by decide) (by omega)
    exact this

/-! ## k55: the plain side: timers that go round -/
def tmR (n : Str) (m : Nat) : Rg := ⟨.not (.contact n), ⟨.timer, n, m⟩⟩
def upC (m c : Nat) : Nat := if c = m then 0 else min (c + 1) m
theorem upC_mod (m p : Nat) : upC m (p % (m + 1)) = (p + 1) % (m + 1) := by
  have h := Nat.mod_lt p (show 0 < m + 1 by omega)
  have e := Nat.add_mod p 1 (m + 1)
  unfold upC
  split
  · rename_i hc
    rcases Nat.eq_zero_or_pos m with q | q
    · subst q
      omega
    · rw [e, hc, Nat.mod_eq_of_lt (show 1 < m + 1 by omega), Nat.mod_self]
  · rw [e, Nat.mod_eq_of_lt (show 1 < m + 1 by omega), Nat.mod_eq_of_lt (show p % (m + 1) + 1 < m + 1 by omega)]
    omega
/-- a ladder that goes round by itself, in P scans -/
structure Round (l : Lad) (P : Nat) (kt : Nat → Ws) (st : Nat → Nat) : Prop where
  good : l.good
  ins : l.ins = []
  new : keptW l (wNew l) = kt 0
  fits : ∀ p, KFits l (kt p)
  cnt : ∀ p, Cnted l.rs (kt p)
  next : ∀ p, nextK l (kt p) 0 = kt (p + 1)
  num : ∀ p, stateL l.rs (kt p) (writ l.rs) = st p
  inj : ∀ p q, p < P → q < P → st p = st q → p = q
  back : st P = 0
  pos : 0 < P
/-- all that is found there -/
def entR (st : Nat → Nat) (p : Nat) : Ent := (st p, (p : Int) - 1, if p = 0 then -1 else 0)
def entsR (st : Nat → Nat) (n : Nat) : List Ent := (List.range n).map (entR st)
section
variable {l : Lad} {P : Nat} {kt : Nat → Ws} {st : Nat → Nat}
theorem Round.zero (r : Round l P kt st) : st 0 = 0 := by
  rw [← r.num 0, ← r.new]
  exact state_new l r.good.fit
theorem Round.step (r : Round l P kt st) (p : Nat) : stepS l (st p) 0 = st (p + 1) := by
  rw [← r.num p]
  unfold stepS
  rw [kAt_state r.good (r.fits p) (r.cnt p), r.next, r.num]
theorem entsR_len (st : Nat → Nat) (n : Nat) : (entsR st n).length = n := by unfold entsR; rw [List.length_map, List.length_range]
theorem entsR_at (st : Nat → Nat) {n p : Nat} (h : p < n) : (entsR st n)[p]? = some (entR st p) := by
  unfold entsR
  rw [List.getElem?_map, List.getElem?_range h]
  rfl
theorem entsR_st (st : Nat → Nat) {n p : Nat} (h : p < n) : stAt (entsR st n) p = st p := by
  unfold stAt
  rw [List.getD_eq_getElem?_getD, entsR_at st h]
  rfl
theorem entsR_mem (st : Nat → Nat) {n s : Nat} : s ∈ stsL (entsR st n) ↔ ∃ p < n, st p = s := by
  unfold stsL entsR
  rw [List.map_map, List.mem_map]
  constructor
  · rintro ⟨p, hp, rfl⟩
    exact ⟨p, List.mem_range.mp hp, rfl⟩
  · rintro ⟨p, hp, rfl⟩
    exact ⟨p, List.mem_range.mpr hp, rfl⟩
theorem Round.grow (r : Round l P kt st) {a : Nat} (h : a < P) : grow (stepS l) (entsR st (a + 1)) a 0 = entsR st (min (a + 2) P) := by
  unfold My.grow
  rw [entsR_st st (Nat.lt_succ_self a), r.step a]
  rcases Nat.lt_or_ge (a + 1) P with q | q
  · rw [if_neg, show min (a + 2) P = a + 1 + 1 by omega]
    · unfold entsR
      rw [List.range_succ (n := a + 1), List.map_append]
      congr 1
      show [((_ : Nat), (_ : Int), (_ : Int))] = [entR st (a + 1)]
      unfold entR
      rw [if_neg (by omega)]
      have : ((a + 1 : Nat) : Int) - 1 = (a : Int) := by omega
      rw [this]
      rfl
    · rw [entsR_mem]
      rintro ⟨p, hp, e⟩
      have := r.inj p (a + 1) (by omega) q e
      omega
  · have e : a + 1 = P := by omega
    rw [if_pos, show min (a + 2) P = a + 1 by omega]
    rw [entsR_mem, e, r.back, ← r.zero]
    exact ⟨0, r.pos, rfl⟩
theorem Round.lev (r : Round l P kt st) : ∀ a, a ≤ P → levL l a = entsR st (min (a + 1) P)
  | 0, _ => by
    rw [show min (0 + 1) P = 1 by have := r.pos; omega]
    show [((0 : Nat), (-1 : Int), (-1 : Int))] = [entR st 0]
    unfold entR
    rw [r.zero]
    rfl
  | a + 1, h => by
    have ih := r.lev a (by omega)
    unfold levL at ih ⊢
    rw [My.lev, ih, show min (a + 1) P = a + 1 by omega, if_pos (by rw [entsR_len]; omega)]
    rw [show (2 : Nat) ^ l.ins.length = 1 by rw [r.ins]; rfl]
    rw [show goRow (stepS l) (entsR st (a + 1)) a 1 = My.grow (stepS l) (entsR st (a + 1)) a 0 from rfl, r.grow (by omega)]
theorem Round.levP (r : Round l P kt st) : levL l P = entsR st P := by rw [r.lev P (Nat.le_refl P), show min (P + 1) P = P by omega]
theorem Round.done (r : Round l P kt st) : Done (stepS l) (2 ^ l.ins.length) P := by
  refine ⟨?_, fun a ha => ?_⟩
  · have := r.levP
    unfold levL at this
    rw [this, entsR_len]
  · have := r.lev a (by omega)
    unfold levL at this
    rw [this, entsR_len]
    omega
theorem Round.way (r : Round l P kt st) : ∀ p, p < P → path (entsR st P) p = List.replicate p 0
  | 0, _ => rfl
  | p + 1, h => by
    have hF : Found (2 ^ l.ins.length) (stepS l) (entsR st P) P := by rw [← r.levP]; exact lev_found P
    have he : (entsR st P)[p + 1]? = some (st (p + 1), ((p : Nat) : Int), ((0 : Nat) : Int)) := by
      rw [entsR_at st h]
      unfold entR
      rw [if_neg (by omega), show ((p + 1 : Nat) : Int) - 1 = (p : Int) by omega]
      rfl
    rw [path_step hF (by rw [entsR_len]; exact h) (by omega) (Nat.lt_succ_self p) he, r.way p (by omega), List.replicate_succ']
end
/-! ### timers that go round, by names -/
def tmRs (nm : List (Str × Nat)) : List Rg := nm.map fun q => tmR q.1 q.2
def tmL (nm : List (Str × Nat)) (o : Str) : Lad := ⟨[], [o], tmRs nm⟩
def mOf (nm : List (Str × Nat)) (n : Str) : Nat := (getL nm n).getD 0
def kF (ns : List Str) (b : Str → Bool) (c : Str → Int) : Ws := ⟨ns.map fun n => (n, b n), ns.map fun n => (n, c n), []⟩
theorem putL_map {α : Type} {ns : List Str} {g : Str → α} {n : Str} {v : α} (h : n ∈ ns) : putL (ns.map fun x => (x, g x)) n v = ns.map fun x => (x, if x = n then v else g x) := by
  unfold putL
  rw [if_pos (by rw [keys_map]; exact h), List.map_map]
  refine List.map_congr_left fun x _ => ?_
  show (if x = n then (n, v) else (x, g x)) = _
  split
  · rename_i e
    rw [e]
  · rfl
theorem kF_cnt {ns : List Str} {b : Str → Bool} {c : Str → Int} {n : Str} (h : n ∈ ns) : (kF ns b c).cntOf n = c n := by
  show (getL (ns.map fun n => (n, c n)) n).getD 0 = _
  rw [getL_map, if_pos h]
  rfl
theorem kF_bit {ns : List Str} {b : Str → Bool} {c : Str → Int} {n : Str} (h : n ∈ ns) : (kF ns b c).bitOf n = b n := by
  show (getL (ns.map fun n => (n, b n)) n).getD false = _
  rw [getL_map, if_pos h]
  rfl
theorem kF_ext {ns : List Str} {b b' : Str → Bool} {c c' : Str → Int} (h : ∀ n ∈ ns, b n = b' n ∧ c n = c' n) : kF ns b c = kF ns b' c' := by
  unfold kF
  rw [List.map_congr_left (g := fun n => (n, b' n)) fun n hn => by rw [(h n hn).1], List.map_congr_left (f := fun n => (n, c n)) (g := fun n => (n, c' n)) fun n hn => by rw [(h n hn).2]]
theorem kF_act {ns : List Str} {b : Str → Bool} {c : Str → Int} {n : Str} {m : Nat} (h : n ∈ ns) : act (kF ns b c) (tmR n m).e ((tmR n m).c.holds (kF ns b c).im) = kF ns (fun x => if x = n then decide ((if (!b n) = true then min (c n + 1) m else 0) = (m : Int)) else b x) (fun x => if x = n then (if (!b n) = true then min (c n + 1) m else 0) else c x) := by
  have hh : (tmR n m).c.holds (kF ns b c).im = !b n := by
    show (!((kF ns b c).bitOf n)) = _
    rw [kF_bit h]
  rw [hh]
  show (⟨putL (ns.map fun n => (n, b n)) n (decide ((if (!b n) = true then min ((kF ns b c).cntOf n + 1) m else 0) = (m : Int))), putL (ns.map fun n => (n, c n)) n (if (!b n) = true then min ((kF ns b c).cntOf n + 1) m else 0), []⟩ : Ws) = _
  rw [kF_cnt h, putL_map h, putL_map h]
  rfl
theorem kF_go {ns : List Str} : ∀ (nm : List (Str × Nat)) (b : Str → Bool) (c : Str → Int) (hs : List Bool), (keysL nm).Nodup → (∀ q ∈ nm, q.1 ∈ ns) →
    ∃ b' c' hs', (tmRs nm).foldl (fun s r => (act s.1 r.e (r.c.holds s.1.im), s.2 ++ [r.c.holds s.1.im])) (kF ns b c, hs) = (kF ns b' c', hs') ∧
      (∀ q ∈ nm, b' q.1 = decide ((if (!b q.1) = true then min (c q.1 + 1) q.2 else 0) = (q.2 : Int)) ∧ c' q.1 = if (!b q.1) = true then min (c q.1 + 1) q.2 else 0) ∧ ∀ x, x ∉ keysL nm → b' x = b x ∧ c' x = c x
  | [], b, c, hs, _, _ => ⟨b, c, hs, rfl, by simp, fun x _ => ⟨rfl, rfl⟩⟩
  | q :: nm, b, c, hs, hn, hm => by
    obtain ⟨n1, n2⟩ := List.nodup_cons.mp (show (q.1 :: keysL nm).Nodup from hn)
    have hq := hm q List.mem_cons_self
    obtain ⟨b', c', hs', e, h1, h2⟩ := kF_go nm (fun x => if x = q.1 then decide ((if (!b q.1) = true then min (c q.1 + 1) q.2 else 0) = (q.2 : Int)) else b x) (fun x => if x = q.1 then (if (!b q.1) = true then min (c q.1 + 1) q.2 else 0) else c x) (hs ++ [(tmR q.1 q.2).c.holds (kF ns b c).im]) n2 fun r hr => hm r (List.mem_cons_of_mem _ hr)
    refine ⟨b', c', hs', ?_, fun r hr => ?_, fun x hx => ?_⟩
    · rw [← e, ← kF_act (m := q.2) hq]
      rfl
    · rcases List.mem_cons.mp hr with rfl | hr
      · obtain ⟨e1, e2⟩ := h2 _ n1
        rw [e1, e2, if_pos rfl, if_pos rfl]
        exact ⟨rfl, rfl⟩
      · have hne : r.1 ≠ q.1 := fun z => n1 (z ▸ List.mem_map.mpr ⟨r, hr, rfl⟩)
        obtain ⟨e1, e2⟩ := h1 r hr
        rw [if_neg hne, if_neg hne] at e1 e2
        exact ⟨e1, e2⟩
    · have hx2 : x ≠ q.1 ∧ x ∉ keysL nm := ⟨fun z => hx (z ▸ List.mem_cons_self), fun z => hx (List.mem_cons_of_mem _ z)⟩
      obtain ⟨e1, e2⟩ := h2 x hx2.2
      rw [e1, e2, if_neg hx2.1, if_neg hx2.1]
      exact ⟨rfl, rfl⟩
theorem snoc_ind {α : Type} {p : List α → Prop} (h0 : p []) (hs : ∀ l x, p l → p (l ++ [x])) (l : List α) : p l := by
  have h : ∀ r : List α, p r.reverse := fun r => by
    induction r with
    | nil => exact h0
    | cons x r ih =>
      rw [List.reverse_cons]
      exact hs _ _ ih
  have := h l.reverse
  rwa [List.reverse_reverse] at this
theorem tmRs_snoc (nm : List (Str × Nat)) (q : Str × Nat) : tmRs (nm ++ [q]) = tmRs nm ++ [tmR q.1 q.2] := by unfold tmRs; rw [List.map_append]; rfl
theorem keysL_snoc {α : Type} (l : List (Str × α)) (q : Str × α) : keysL (l ++ [q]) = keysL l ++ [q.1] := by unfold keysL; rw [List.map_append]; rfl
theorem nodup_snoc {l : List Str} {x : Str} (h : (l ++ [x]).Nodup) : l.Nodup ∧ x ∉ l := by
  rw [List.nodup_append] at h
  exact ⟨h.1, fun hx => h.2.2 x hx x List.mem_cons_self rfl⟩
theorem tm_writ (nm : List (Str × Nat)) : (keysL nm).Nodup → writ (tmRs nm) = keysL nm := snoc_ind (p := fun nm => (keysL nm).Nodup → writ (tmRs nm) = keysL nm) (fun _ => rfl) (fun nm q ih hn => by
  rw [keysL_snoc] at hn
  obtain ⟨h1, h2⟩ := nodup_snoc hn
  rw [tmRs_snoc, writ_snoc, ih h1, keysL_snoc]
  exact if_neg h2) nm
theorem tm_cnt0 (nm : List (Str × Nat)) : (keysL nm).Nodup → cnt0 (tmRs nm) = (keysL nm).map fun n => (n, 0) := snoc_ind (p := fun nm => (keysL nm).Nodup → cnt0 (tmRs nm) = (keysL nm).map fun n => (n, 0)) (fun _ => rfl) (fun nm q ih hn => by
  rw [keysL_snoc] at hn
  obtain ⟨h1, h2⟩ := nodup_snoc hn
  rw [tmRs_snoc, cnt0_snoc, ih h1, keysL_snoc, if_pos (show (tmR q.1 q.2).e.k.counts = true from rfl), List.map_append]
  exact if_neg (by rw [keys_map]; exact h2)) nm
theorem tm_seen0 (nm : List (Str × Nat)) : seen0 (tmRs nm) = [] := snoc_ind (p := fun nm => seen0 (tmRs nm) = []) rfl (fun nm q ih => by
  rw [tmRs_snoc, seen0_snoc, ih]
  rfl) nm
theorem tm_bears (nm : List (Str × Nat)) (n : Str) : (keysL nm).Nodup → bears n (tmRs nm) = if n ∈ keysL nm then [true] else [] := snoc_ind (p := fun nm => (keysL nm).Nodup → bears n (tmRs nm) = if n ∈ keysL nm then [true] else []) (fun _ => rfl) (fun nm q ih hn => by
  rw [keysL_snoc] at hn
  obtain ⟨h1, h2⟩ := nodup_snoc hn
  rw [tmRs_snoc, bears_snoc, ih h1, keysL_snoc]
  by_cases hq : q.1 = n
  · subst hq
    simp [tmR, h2, Ek.counts]
  · have hq2 : ¬ n = q.1 := fun e => hq e.symm
    simp [tmR, hq, hq2]) nm
theorem tm_crowd {nm : List (Str × Nat)} (hn : (keysL nm).Nodup) : crowd (tmRs nm) = false := Fit.crowd (nat := fun _ => 2) (bn := keysL nm) ⟨fun n h => absurd h (by decide), fun n _ => by
  rw [tm_bears nm n hn]
  by_cases h : n ∈ keysL nm
  · exact .inr ⟨h, if_pos h⟩
  · exact .inl ⟨h, if_neg h⟩⟩
theorem mOf_at {nm : List (Str × Nat)} (hn : (keysL nm).Nodup) {q : Str × Nat} (hq : q ∈ nm) : mOf nm q.1 = q.2 := by
  obtain ⟨i, hi⟩ := List.getElem?_of_mem hq
  have := getL_at hn (show nm[i]? = some (q.1, q.2) from hi)
  unfold mOf
  rw [this]
  rfl
theorem tm_ct {nm : List (Str × Nat)} (hn : (keysL nm).Nodup) {n : Str} (h : n ∈ keysL nm) : getL (ctE (tmRs nm)) n = some ⟨.timer, n, (mOf nm n : Nat)⟩ := by
  obtain ⟨q, hq, rfl⟩ := List.mem_map.mp h
  rw [mOf_at hn hq]
  exact ctE_one (r := tmR q.1 q.2) (tm_crowd hn) (List.mem_map.mpr ⟨q, hq, rfl⟩) rfl
/-- what stands at p scans -/
def tmK (nm : List (Str × Nat)) (p : Nat) : Ws := kF (keysL nm) (fun n => decide (((p % (mOf nm n + 1) : Nat) : Int) = (mOf nm n : Nat))) (fun n => ((p % (mOf nm n + 1) : Nat) : Int))
def tmS (nm : List (Str × Nat)) (p : Nat) : Nat := nm.foldr (fun q s => p % (q.2 + 1) + 16 * s) 0
theorem tmS_same : ∀ {nm : List (Str × Nat)} {p q : Nat}, (∀ r ∈ nm, r.2 ≤ 9) → tmS nm p = tmS nm q → ∀ r ∈ nm, p % (r.2 + 1) = q % (r.2 + 1)
  | [], _, _, _, _, r, hr => nomatch hr
  | x :: nm, p, q, h9, e, r, hr => by
    have e : p % (x.2 + 1) + 16 * tmS nm p = q % (x.2 + 1) + 16 * tmS nm q := e
    have hx := h9 x List.mem_cons_self
    have h1 := Nat.mod_lt p (show 0 < x.2 + 1 by omega)
    have h2 := Nat.mod_lt q (show 0 < x.2 + 1 by omega)
    have e1 : p % (x.2 + 1) = q % (x.2 + 1) := by omega
    rcases List.mem_cons.mp hr with rfl | hr
    · exact e1
    · exact tmS_same (fun r hr => h9 r (List.mem_cons_of_mem _ hr)) (by omega) r hr
theorem tm_round {nm : List (Str × Nat)} {o : Str} {P : Nat} (hn : (keysL nm).Nodup) (hl : 1 ≤ nm.length ∧ nm.length ≤ 20) (ho : o ∈ keysL nm) (hw : ∀ n ∈ keysL nm, isName n = true) (h9 : ∀ q ∈ nm, 1 ≤ q.2 ∧ q.2 ≤ 9) (hP : 0 < P)
    (hinj : ∀ p q, p < P → q < P → (∀ r ∈ nm, p % (r.2 + 1) = q % (r.2 + 1)) → p = q) (hback : ∀ r ∈ nm, P % (r.2 + 1) = 0) : Round (tmL nm o) P (tmK nm) (tmS nm) := by
  have hwr := tm_writ nm hn
  have hkl : (keysL nm).length = nm.length := List.length_map _
  refine ⟨⟨?_, ?_, ?_⟩, rfl, ?_, ?_, ?_, ?_, ?_, ?_, ?_, hP⟩
  · intro r hr
    obtain ⟨q, hq, rfl⟩ := List.mem_map.mp hr
    have := h9 q hq
    have hqn := hw q.1 (List.mem_map.mpr ⟨q, hq, rfl⟩)
    refine ⟨hqn, by simp [tmR, Cond.size], by simp [tmR, Cond.depth], hqn, by show (1 : Int) ≤ (q.2 : Nat); omega, by show ((q.2 : Nat) : Int) ≤ 9; omega⟩
  · intro n hn'
    cases hn'
  · refine (fair_iff _).mpr ⟨Nat.zero_le _, List.nodup_nil, ⟨Nat.le_refl _, by show 1 ≤ 6; decide⟩, by show [o].Nodup; simp, ?_, (fun n h => nomatch h), fun n h => ?_, tm_crowd hn, ?_⟩
    · show 1 ≤ (tmRs nm).length ∧ (tmRs nm).length ≤ 30
      have : (tmRs nm).length = nm.length := List.length_map _
      omega
    · show n ∈ writ (tmRs nm)
      rw [hwr, List.mem_singleton.mp (show n ∈ [o] from h)]
      exact ho
    · show (writ (tmRs nm)).length ≤ 20
      rw [hwr]
      omega
  · show (⟨(writ (tmRs nm)).map fun n => (n, (wNew (tmL nm o)).bitOf n), cnt0 (tmRs nm), seen0 (tmRs nm)⟩ : Ws) = _
    rw [tm_cnt0 nm hn, tm_seen0, hwr]
    unfold tmK kF
    congr 1
    · refine List.map_congr_left fun n hn' => ?_
      obtain ⟨q, hq, rfl⟩ := List.mem_map.mp hn'
      have hm := h9 q hq
      have hb : (wNew (tmL nm o)).bitOf q.1 = false := by
        show (getL ((([] : List Str) ++ writ (tmRs nm)).map fun n => (n, false)) q.1).getD false = false
        rw [getL_map]
        split <;> rfl
      show (q.1, _) = (q.1, decide (((0 % (mOf nm q.1 + 1) : Nat) : Int) = (mOf nm q.1 : Nat)))
      rw [hb, mOf_at hn hq, decide_eq_false (by rw [Nat.zero_mod]; omega)]
  · intro p
    refine ⟨?_, ?_, ?_⟩
    · rw [show (tmL nm o).rs = tmRs nm from rfl, hwr]
      exact keys_map _ _
    · rw [show (tmL nm o).rs = tmRs nm from rfl, tm_cnt0 nm hn, keys_map]
      exact keys_map _ _
    · rw [show (tmL nm o).rs = tmRs nm from rfl, tm_seen0]
      rfl
  · intro p n e he
    have hk : n ∈ keysL nm := by
      have := ctE_writ (rs := tmRs nm) he
      rwa [hwr] at this
    have he' := tm_ct hn hk
    rw [show getL (ctE (tmRs nm)) n = some e from he] at he'
    cases he'
    unfold tmK
    rw [kF_cnt hk, kF_bit hk]
    have := Nat.mod_lt p (show 0 < mOf nm n + 1 by omega)
    exact ⟨by omega, by show ((p % (mOf nm n + 1) : Nat) : Int) ≤ (mOf nm n : Nat); omega, rfl⟩
  · intro p
    unfold nextK keptW
    have hgo := kF_go (ns := keysL nm) nm (fun n => decide (((p % (mOf nm n + 1) : Nat) : Int) = (mOf nm n : Nat))) (fun n => ((p % (mOf nm n + 1) : Nat) : Int)) [] hn fun q hq => List.mem_map.mpr ⟨q, hq, rfl⟩
    obtain ⟨b', c', hs', e, h1, _⟩ := hgo
    have e2 : (scanP (tmL nm o) (backW (tmL nm o) (tmK nm p)) (rowT 0 (tmL nm o).ins.length)) = (kF (keysL nm) b' c', hs') := by
      rw [← e]
      rfl
    rw [e2]
    show (⟨(writ (tmRs nm)).map fun n => (n, (kF (keysL nm) b' c').bitOf n), _, []⟩ : Ws) = _
    rw [hwr]
    have e3 : (⟨(keysL nm).map fun n => (n, (kF (keysL nm) b' c').bitOf n), (keysL nm).map fun n => (n, c' n), []⟩ : Ws) = kF (keysL nm) b' c' := by
      unfold kF
      congr 1
      exact List.map_congr_left fun n hn' => by rw [show (⟨(keysL nm).map fun n => (n, b' n), (keysL nm).map fun n => (n, c' n), []⟩ : Ws) = kF (keysL nm) b' c' from rfl, kF_bit hn']
    refine Eq.trans e3 ?_
    unfold tmK
    refine kF_ext fun n hn' => ?_
    obtain ⟨q, hq, rfl⟩ := List.mem_map.mp hn'
    obtain ⟨f1, f2⟩ := h1 q hq
    rw [mOf_at hn hq] at f1 f2 ⊢
    have hu := upC_mod q.2 p
    have hv : (if (!decide (((p % (q.2 + 1) : Nat) : Int) = (q.2 : Nat))) = true then min (((p % (q.2 + 1) : Nat) : Int) + 1) (q.2 : Nat) else 0) = (((p + 1) % (q.2 + 1) : Nat) : Int) := by
      rw [← hu]
      unfold upC
      by_cases hc : p % (q.2 + 1) = q.2
      · rw [if_pos hc, decide_eq_true (by omega)]
        rfl
      · rw [if_neg hc, decide_eq_false (by omega)]
        show min (((p % (q.2 + 1) : Nat) : Int) + 1) (q.2 : Nat) = _
        omega
    rw [hv] at f1 f2
    exact ⟨f1, f2⟩
  · intro p
    show stateL (tmRs nm) (tmK nm p) (writ (tmRs nm)) = _
    rw [hwr]
    have key : ∀ nm2 : List (Str × Nat), (∀ q ∈ nm2, q ∈ nm) → stateL (tmRs nm) (tmK nm p) (keysL nm2) = tmS nm2 p := fun nm2 => by
      induction nm2 with
      | nil => intro _; rfl
      | cons q nm2 ih =>
        intro hm
        have hq := hm q List.mem_cons_self
        have hqk : q.1 ∈ keysL nm := List.mem_map.mpr ⟨q, hq, rfl⟩
        show numOf (tmK nm p) q.1 + 2 ^ bitsOf (tmRs nm) q.1 * stateL (tmRs nm) (tmK nm p) (keysL nm2) = p % (q.2 + 1) + 16 * tmS nm2 p
        rw [ih fun r hr => hm r (List.mem_cons_of_mem _ hr)]
        have h1 : bitsOf (tmRs nm) q.1 = 4 := by
          unfold bitsOf
          rw [tm_ct hn hqk]
          rfl
        have h2 : numOf (tmK nm p) q.1 = p % (q.2 + 1) := by
          unfold numOf tmK
          rw [if_pos (by show q.1 ∈ keysL ((keysL nm).map fun n => (n, _)); rw [keys_map]; exact hqk), kF_cnt hqk, mOf_at hn hq]
          show ((p % (q.2 + 1) : Nat) : Int).toNat + (if (kF _ _ _).seenOf q.1 = true then 16 else 0) = _
          rw [if_neg (by show ¬ (false = true); decide)]
          omega
        rw [h1, h2]
    exact key nm fun q hq => hq
  · exact fun p q hp hq e => hinj p q hp hq (tmS_same (fun r hr => (h9 r hr).2) e)
  · have key : ∀ nm2 : List (Str × Nat), (∀ q ∈ nm2, q ∈ nm) → tmS nm2 P = 0 := fun nm2 => by
      induction nm2 with
      | nil => intro _; rfl
      | cons q nm2 ih =>
        intro hm
        show P % (q.2 + 1) + 16 * tmS nm2 P = 0
        rw [ih fun r hr => hm r (List.mem_cons_of_mem _ hr), hback q (hm q List.mem_cons_self)]
    exact key nm fun q hq => hq
/-! ### the four of them -/
def msL : List (List Nat) := [[9, 8, 6], [8, 7, 6], [8, 7, 4], [8, 4, 6, 3]]
def perL : List Nat := [630, 504, 360, 1260]
theorem tm_case {a b c d : Str} (hn : [a, b, c, d].Nodup) (hw : ∀ n ∈ [a, b, c, d], isName n = true) {i : Nat} {ms : List Nat} {P : Nat} (hi : msL[i]? = some ms) (hp : perL[i]? = some P) :
    Round (tmL ([a, b, c, d].zip ms) a) P (tmK ([a, b, c, d].zip ms)) (tmS ([a, b, c, d].zip ms)) ∧ 3 ≤ ms.length ∧ ms.length ≤ 4 ∧ 300 ≤ P ∧ P ≤ 1300 := by
  have n3 : [a, b, c].Nodup := hn.sublist (by simp)
  have w3 : ∀ n ∈ [a, b, c], isName n = true := fun n h => hw n ((show [a, b, c].Sublist [a, b, c, d] by simp).subset h)
  rcases i with _ | _ | _ | _ | i
  · cases hi
    cases hp
    refine ⟨tm_round n3 (by simp) List.mem_cons_self w3 ?_ (by decide) (fun p q hp hq h => ?_) ?_, by decide, by decide, by decide, by decide⟩
    · simp
    · have h1 := h (a, 9) (by simp)
      have h2 := h (b, 8) (by simp)
      have h3 := h (c, 6) (by simp)
      dsimp only at h1 h2 h3
      omega
    · simp
  · cases hi
    cases hp
    refine ⟨tm_round n3 (by simp) List.mem_cons_self w3 ?_ (by decide) (fun p q hp hq h => ?_) ?_, by decide, by decide, by decide, by decide⟩
    · simp
    · have h1 := h (a, 8) (by simp)
      have h2 := h (b, 7) (by simp)
      have h3 := h (c, 6) (by simp)
      dsimp only at h1 h2 h3
      omega
    · simp
  · cases hi
    cases hp
    refine ⟨tm_round n3 (by simp) List.mem_cons_self w3 ?_ (by decide) (fun p q hp hq h => ?_) ?_, by decide, by decide, by decide, by decide⟩
    · simp
    · have h1 := h (a, 8) (by simp)
      have h2 := h (b, 7) (by simp)
      have h3 := h (c, 4) (by simp)
      dsimp only at h1 h2 h3
      omega
    · simp
  · cases hi
    cases hp
    refine ⟨tm_round hn (by simp) List.mem_cons_self hw ?_ (by decide) (fun p q hp hq h => ?_) ?_, by decide, by decide, by decide, by decide⟩
    · simp
    · have h1 := h (a, 8) (by simp)
      have h2 := h (b, 4) (by simp)
      have h3 := h (c, 6) (by simp)
      have h4 := h (d, 3) (by simp)
      dsimp only at h1 h2 h3 h4
      omega
    · simp
  · cases hi

--%% NR
/-! ## k55: the law's own -/
abbrev s__law_default : Stmt := top 81
theorem sc__law_default : FnScope ["_law_ladder"] ["_law_ladder"] (defScope s__law_default) := ⟨rfl, rfl, rfl, by decide +kernel, rfl, by decide +kernel, by decide +kernel⟩
abbrev s__law_long_right : Stmt := top 82
theorem sc__law_long_right : FnScope ["_law_names_here", "_law_cell", "_law_rungs", "_law_name", "_law_greatest", "_law_model", "_law_ladder", "_law_found", "_law_memory", "_law_place", "_law_at"] ["_law_names_here", "_law_cell"] (defScope s__law_long_right) := ⟨rfl, rfl, rfl, by decide +kernel, rfl, by decide +kernel, by decide +kernel⟩
structure TOwn (K : PySem.W.Frag) (mg : Str → Option Value) (cs : Cs) (cc : Addr) (xc : Xc) (cw : Addr) : Prop where
  rch : TReach K mg cs cc xc cw
  made : TLMade K mg cs cc xc
  lscan : TLScan K mg
  lst : TLState K mg
  d_default : DefAt K mg "_law_default" s__law_default ["_law_ladder"]
  d_long_right : DefAt K mg "_law_long_right" s__law_long_right ["_law_names_here", "_law_cell"]
  z_len : mg "len" = none
  z_range : mg "range" = none
  z_int : mg "int" = none
  z_zip : mg "zip" = none
section
variable {P : Program} {w : World} {K : PySem.W.Frag} {mg : Str → Option Value} {base : Heap} {cs : Cs} {cc : Addr} {xc : Xc} {cw : Addr}
def spDefT (K : PySem.W.Frag) (cs : Cs) : Sp := fun vs H Q _ => ∃ (v : V) (l : Lad) (N : Nat), vs = [v] ∧ IsL K cs H v l ∧ l.good ∧ Done (stepS l) (2 ^ l.ins.length) N ∧ 1 < N ∧
  (N ≤ 500 → ∀ (H' : Hp) (p : Addr) (ws : List V), Same H H' → H' p = some (.lst ws) → Two (IsEnt H') ws (levL l N) → Q (.ref p) H') ∧ (500 < N → ∀ H', Same H H' → Q .non H')
theorem ok_defT (T : TOwn K mg cs cc xc cw) : FnAt P w K mg base CX0 "_law_default" 25 ["_law_ladder"] (spDefT K cs) := by
  have GDX_reached := ok_reached (P := P) (w := w) (base := base) T.rch
  have e_TooMany := T.rch.stp.at_.st.exs.e_many
  refine fnAt_ok T.d_default sc__law_default (fun vs H Q E h => ?_) (fun f cdv A outer st H vs Q E hr h => ?_)
  · obtain ⟨v, l, N, rfl, _⟩ := h; rfl
  · obtain ⟨v, l, N, rfl, hL, hg, hD, hN, k1, k2⟩ := h
    refine ⟨_, (pss_one (ps_try_only rfl rfl ⟨rfl, by decide, .inl e_TooMany.gP⟩ takesN (fun W pn xe tk _ => (pss_one (ps_ret (pe_callTD GDX_reached hr tk (pa_cons (pv 0) pa_nil))))) (fun a oe cls d pn _ _ => (pss_one (ps_ret pe_non))))), ?_⟩
    walk_at "rd"
    unfold tCallSD
    walk_at "rd"
    refine ⟨v, l, 500, rfl, hL, hg, by decide, fun N' hD' hN' H1 p ws s1 np hp hw => ?_, fun a h1 h2 H1 s1 => ⟨true, e_TooMany.self, fun _ _ _ => k2 ?_ H1 s1, fun z => nomatch z⟩⟩
    · obtain rfl := hD.one hD'
      exact k1 (by omega) H1 p ws s1 hp hw
    · have := hD.most a
      unfold levL at h1
      omega
def spLongR (K : PySem.W.Frag) : Sp := fun vs H Q _ => ∃ (p : Addr) (ns : List Str) (c : Int), vs = [.ref p, .int c] ∧ NamesU H p ns 4 ∧ 0 ≤ c ∧ ∀ H', Same H H' → Q (.bl true) H'
theorem ok_longR (T : TOwn K mg cs cc xc cw) : FnAt P w K mg base CX0 "_law_long_right" 29 ["_law_names_here", "_law_cell"] (spLongR K) := by
  have GD_reached := (ok_reached (P := P) (w := w) (base := base) T.rch).calm
  have G_reached := GD_reached.full
  have G_run_to := ok_run_to (P := P) (w := w) (base := base) T.rch
  have G__law_default := ok_defT (P := P) (w := w) (base := base) T
  have G__law_made := ok_madeL (P := P) (w := w) (base := base) T.made
  have G__law_begun := ok_begun (P := P) (w := w) (base := base) T.lscan
  have G__law_scanned := ok_scanned (P := P) (w := w) (base := base) T.lscan
  have G__law_state := ok_stateM (P := P) (w := w) (base := base) T.lst
  refine fnAt_ok T.d_long_right sc__law_long_right (fun vs H Q E h => ?_) (fun f cdv A outer st H vs Q E hr h => ?_)
  · obtain ⟨p, ns, c, rfl, _⟩ := h; rfl
  · obtain ⟨pn, ns, cell, rfl, hN, hc0, k⟩ := h
    have hu := hu_of hr
    refine ⟨_, (pss_cons (ps_set (i := 2) sc__law_long_right.nd rfl (by first | exact Or.inl rfl | exact Or.inr rfl) (pe_lst pa_nil))
        (pss_cons (ps_for PassesOwn.never rfl (pi_zipL rfl T.z_zip (pa_cons (pv 0) (pa_cons (pe_ix ix_list (pe_lst (pa_cons (pe_tup (pa_cons pe_int (pa_cons pe_int (pa_cons pe_int pa_nil)))) (pa_cons (pe_tup (pa_cons pe_int (pa_cons pe_int (pa_cons pe_int pa_nil)))) (pa_cons (pe_tup (pa_cons pe_int (pa_cons pe_int (pa_cons pe_int pa_nil)))) (pa_cons (pe_tup (pa_cons pe_int (pa_cons pe_int (pa_cons pe_int (pa_cons pe_int pa_nil))))) pa_nil))))) (pe_op op_mod (pv 1) pe_int) (fun _ _ => rfl)) pa_nil))) (pg_tup rfl (pgs_cons (pg_name (i := 3) sc__law_long_right.nd rfl (by first | exact Or.inl rfl | exact Or.inr rfl)) (pgs_cons (pg_name (i := 4) sc__law_long_right.nd rfl (by first | exact Or.inl rfl | exact Or.inr rfl)) pgs_nil))) (pss_one (ps_expr (pe_bm PySem.F.plainAttrs_list PySem.F.slot_list_append PySem.F.type_list_append mt_append (pv 2) (pa_cons (pe_tup (pa_cons (pe_tup (pa_cons pe_str (pa_cons (pe_tup (pa_cons pe_str (pa_cons (pv 3) pa_nil))) pa_nil))) (pa_cons (pe_tup (pa_cons pe_str (pa_cons (pv 3) (pa_cons (pv 4) pa_nil)))) pa_nil))) pa_nil)))))
        (pss_cons (ps_set (i := 5) sc__law_long_right.nd rfl (by first | exact Or.inl rfl | exact Or.inr rfl) (pe_tup (pa_cons (pe_tup pa_nil) (pa_cons (pe_tup (pa_cons (pe_ix ix_list (pv 0) pe_int (fun _ _ => rfl)) pa_nil)) (pa_cons (pv 2) pa_nil)))))
        (pss_cons (ps_set (i := 6) sc__law_long_right.nd rfl (by first | exact Or.inl rfl | exact Or.inr rfl) (pe_callF G__law_made hr pass0 (pa_cons (pv 5) pa_nil)))
        (pss_cons (ps_set (i := 7) sc__law_long_right.nd rfl (by first | exact Or.inl rfl | exact Or.inr rfl) (pe_callF G_reached hr pass0 (pa_cons (pv 6) (pa_cons pe_int pa_nil))))
        (pss_cons (ps_ifG (PW.pt (pw_or (pt_cmpR (Ru.op_or op_ne (op_neD hr.units)) (pe_callF G__law_default hr pass0 (pa_cons (pv 6) pa_nil)) (pe_ix ix_list (pe_lst (pa_cons (pv 7) (pa_cons pe_non pa_nil))) (pe_callTy call_int1 (by rfl) T.z_int (show PySem.bootBuiltins "int" = some (.type "int") by decide +kernel) (pa_cons (pe_cmpR op_gt (pe_callB call_len_seq (by rfl) T.z_len PySem.boot_len (pa_cons (pv 7) pa_nil)) pe_int (nomark _)) pa_nil)) (fun _ _ => rfl)) (nomark _)) (pw_or1 (pt_cmpR (op_neD hr.units) (pe_callFK GD_reached hr pass0 (pa_cons (pv 6) pa_nil) (pk_cons pe_int pk_nil)) (pv 7) (nomark _))))) (pss_one (ps_ret pe_bl)) pss_nil)
        (pss_cons (ps_set (i := 8) sc__law_long_right.nd rfl (by first | exact Or.inl rfl | exact Or.inr rfl) (pe_callF G__law_begun hr pass0 (pa_cons (pv 2) pa_nil)))
        (pss_cons (ps_for PassesOwn.never rfl (pi_range1 rfl T.z_range (pa_cons (pe_callB call_len_seq (by rfl) T.z_len PySem.boot_len (pa_cons (pv 7) pa_nil)) pa_nil)) (pg_name (i := 9) sc__law_long_right.nd rfl (by first | exact Or.inl rfl | exact Or.inr rfl)) (pss_cons (ps_if (pt_cmpR (op_neD hr.units) (pe_ix ix_list (pv 7) (pv 9) (fun _ _ => rfl)) (pe_tup (pa_cons (pe_callF G__law_state hr pass0 (pa_cons (pv 2) (pa_cons (pv 8) pa_nil))) (pa_cons (pe_op op_sub (pv 9) pe_int) (pa_cons (pe_op op_sub pe_int (pe_callTy call_int1 (by rfl) T.z_int (show PySem.bootBuiltins "int" = some (.type "int") by decide +kernel) (pa_cons (pe_cmpR op_eq (pv 9) pe_int (nomark _)) pa_nil))) pa_nil)))) (nomark _)) (pss_one (ps_ret pe_bl)) pss_nil)
          (pss_one (ps_set (i := 8) sc__law_long_right.nd rfl (by first | exact Or.inl rfl | exact Or.inr rfl) (pe_ix ix_tup (pe_callF G__law_scanned hr pass0 (pa_cons (pv 5) (pa_cons (pv 8) (pa_cons pe_int pa_nil)))) pe_int (fun _ _ => rfl))))))
        (pss_cons (ps_set (i := 10) sc__law_long_right.nd rfl (by first | exact Or.inl rfl | exact Or.inr rfl) (pe_op op_mod (pe_op op_fdiv (pv 1) pe_int) (pe_callB call_len_seq (by rfl) T.z_len PySem.boot_len (pa_cons (pv 7) pa_nil))))
        (pss_cons (ps_ifG (PW.pt (pw_or (pt_cmpR (op_neD hr.units) (pe_callF G_run_to hr pass0 (pa_cons (pv 7) (pa_cons (pe_op op_sub (pe_callB call_len_seq (by rfl) T.z_len PySem.boot_len (pa_cons (pv 7) pa_nil)) pe_int) pa_nil))) (pe_op op_rep (pe_lst (pa_cons pe_int pa_nil)) (pe_op op_sub (pe_callB call_len_seq (by rfl) T.z_len PySem.boot_len (pa_cons (pv 7) pa_nil)) pe_int)) (nomark _)) (pw_or1 (pt_cmpR (op_neD hr.units) (pe_callF G_run_to hr pass0 (pa_cons (pv 7) (pa_cons (pv 10) pa_nil))) (pe_op op_rep (pe_lst (pa_cons pe_int pa_nil)) (pv 10)) (nomark _))))) (pss_one (ps_ret pe_bl)) pss_nil)
        (pss_one (ps_ret (pe_and (pe_cmpR op_eq (pe_callB call_len_seq (by rfl) T.z_len PySem.boot_len (pa_cons (pv 7) pa_nil)) (pe_ix ix_list (pe_lst (pa_cons pe_int (pa_cons pe_int (pa_cons pe_int (pa_cons pe_int pa_nil))))) (pe_op op_mod (pv 1) pe_int) (fun _ _ => rfl)) (nomark _)) (pe_one (pe_cmpR op_eq (pe_callF G__law_state hr pass0 (pa_cons (pv 2) (pa_cons (pv 8) pa_nil))) pe_int (nomark _)))))))))))))))), ?_⟩
    walk_at "rd"
    refine ⟨Nat.zero_le _, fun pr nr => ?_⟩
    have s1 := Same.new (o := .lst []) nr
    have e1 := upd_same (H := H) (a := pr) (o := .lst [])
    show tFor _ _ _ _ _ (upd H pr (.lst []))
    generalize upd H pr (.lst []) = H1 at s1 e1 ⊢
    refine ⟨_, rfl, line_ge (by show 3 ≤ 1000000; decide), fun t1 n1 => ⟨line_ge (by show 3 ≤ 1000000; decide), fun t2 n2 => ⟨line_ge (by show 3 ≤ 1000000; decide), fun t3 n3 => ⟨line_ge (by show 4 ≤ 1000000; decide), fun t4 n4 => ⟨line_ge (by show 4 ≤ 1000000; decide), fun q nq => ?_⟩⟩⟩⟩⟩
    have u1 := Same.new (o := .tup [.int 9, .int 8, .int 6]) n1
    have f1 := upd_same (H := H1) (a := t1) (o := .tup [.int 9, .int 8, .int 6])
    show (fun _ H1 => _) (V.ref q) (upd (upd (upd (upd (upd H1 t1 (.tup [.int 9, .int 8, .int 6])) t2 (.tup [.int 8, .int 7, .int 6])) t3 (.tup [.int 8, .int 7, .int 4])) t4 (.tup [.int 8, .int 4, .int 6, .int 3])) q (.lst [.ref t1, .ref t2, .ref t3, .ref t4]))
    generalize upd H1 t1 (.tup [.int 9, .int 8, .int 6]) = H2 at u1 f1 n2 n3 n4 nq ⊢
    have u2 := Same.new (o := .tup [.int 8, .int 7, .int 6]) n2
    have f2 := upd_same (H := H2) (a := t2) (o := .tup [.int 8, .int 7, .int 6])
    generalize upd H2 t2 (.tup [.int 8, .int 7, .int 6]) = H3 at u2 f2 n3 n4 nq ⊢
    have u3 := Same.new (o := .tup [.int 8, .int 7, .int 4]) n3
    have f3 := upd_same (H := H3) (a := t3) (o := .tup [.int 8, .int 7, .int 4])
    generalize upd H3 t3 (.tup [.int 8, .int 7, .int 4]) = H4 at u3 f3 n4 nq ⊢
    have u4 := Same.new (o := .tup [.int 8, .int 4, .int 6, .int 3]) n4
    have f4 := upd_same (H := H4) (a := t4) (o := .tup [.int 8, .int 4, .int 6, .int 3])
    generalize upd H4 t4 (.tup [.int 8, .int 4, .int 6, .int 3]) = H5 at u4 f4 nq ⊢
    have u5 := Same.new (o := .lst [.ref t1, .ref t2, .ref t3, .ref t4]) nq
    have f5 := upd_same (H := H5) (a := q) (o := .lst [.ref t1, .ref t2, .ref t3, .ref t4])
    generalize upd H5 q (.lst [.ref t1, .ref t2, .ref t3, .ref t4]) = H6 at u5 f5 ⊢
    have w1 := (((u2.trans u3).trans u4).trans u5) _ _ f1
    have w2 := ((u3.trans u4).trans u5) _ _ f2
    have w3 := (u4.trans u5) _ _ f3
    have w4 := u5 _ _ f4
    have u15 := (((u1.trans u2).trans u3).trans u4).trans u5
    have e6 := u15 _ _ e1
    have s6 := s1.trans u15
    have nr6 : H pr = none := nr
    clear f1 f2 f3 f4 u1 u2 u3 u4 u5 n1 n2 n3 n4 nq u15 e1 s1
    have hr4 : 0 ≤ cell % 4 ∧ cell % 4 < 4 := ⟨Int.emod_nonneg _ (by decide), Int.emod_lt_of_pos _ (by decide)⟩
    obtain ⟨i, tt, ms, Pn, hi, hat, htt, hms, hper, hpat⟩ : ∃ (i : Nat) (tt : Addr) (ms : List Nat) (Pn : Nat), cell % 4 = (i : Int) ∧ atI [V.ref t1, V.ref t2, V.ref t3, V.ref t4] (cell % 4) = some (.ref tt) ∧ H6 tt = some (.tup (ms.map fun m : Nat => V.int m)) ∧ msL[i]? = some ms ∧ perL[i]? = some Pn ∧ atI [V.int 630, V.int 504, V.int 360, V.int 1260] (cell % 4) = some (.int (Pn : Nat)) := by
      rcases (show cell % 4 = 0 ∨ cell % 4 = 1 ∨ cell % 4 = 2 ∨ cell % 4 = 3 by omega) with e | e | e | e <;> rw [e]
      · exact ⟨0, t1, [9, 8, 6], _, rfl, rfl, w1, rfl, rfl, rfl⟩
      · exact ⟨1, t2, [8, 7, 6], _, rfl, rfl, w2, rfl, rfl, rfl⟩
      · exact ⟨2, t3, [8, 7, 4], _, rfl, rfl, w3, rfl, rfl, rfl⟩
      · exact ⟨3, t4, [8, 4, 6, 3], _, rfl, rfl, w4, rfl, rfl, rfl⟩
    obtain ⟨a, b, c, d, hns⟩ : ∃ a b c d, ns = [a, b, c, d] := by
      match ns, hN.len with
      | [a, b, c, d], _ => exact ⟨a, b, c, d, rfl⟩
    have hnd := hN.nd
    have hok := hN.ok
    subst hns
    obtain ⟨R, hm3, hm4, hP3, hP13⟩ := tm_case hnd hok hms hper
    have m_n : pn ≠ pr := fun e => by have := hN.at_; rw [e, nr6] at this; cases this
    have hzl : min ([a, b, c, d].map V.str).length (ms.map fun m : Nat => V.int m).length = ms.length := by rw [List.length_map, List.length_map]; simp only [List.length_cons, List.length_nil]; omega
    have hrsl : (tmRs ([a, b, c, d].zip ms)).length = ms.length := by unfold tmRs; rw [List.length_map, List.length_zip]; simp only [List.length_cons, List.length_nil]; omega
    have hn6 := s6 _ _ hN.at_
    have m_t : tt ≠ pr := fun e => by rw [e, e6] at htt; cases htt
    refine ⟨_, rfl, _, _, rfl, rfl, (by decide : (0 : Int) < 4), q, _, _, .ref tt, rfl, rfl, SqL.of f5, hat, ?_⟩
    refine ⟨pn, tt, [a, b, c, d].map V.str, ms.map fun m : Nat => V.int m, rfl, SqL.of hn6, SqT.of htt, for_zipL (fun j σ H' => ∃ (v3 v4 : Option V) (us : List V), σ = [some (.ref pn), some (.int cell), some (.ref pr), v3, v4, none, none, none, none, none, none] ∧ But pr H6 H' ∧ H' pr = some (.lst us) ∧ Two (IsRT H') us ((tmRs ([a, b, c, d].zip ms)).take j)) ⟨none, none, [], rfl, (fun _ _ e _ => e), e6, .nil⟩ (fun j σ H' ⟨_, _, _, _, z, _⟩ => SqL.of (z _ _ hn6 m_n)) (fun j σ H' ⟨_, _, _, _, z, _⟩ => SqT.of (z _ _ htt m_t)) ?_ ?_⟩
    · rintro j x y t σ G hx hy ⟨v3, v4, us, rfl, sG, hpG, htw⟩ nt
      rw [List.getElem?_map] at hx hy
      obtain ⟨nm, hnm, rfl⟩ := Option.map_eq_some_iff.mp hx
      obtain ⟨m, hm, rfl⟩ := Option.map_eq_some_iff.mp hy
      have y0 := Same.new (o := .tup [.str nm, .int (m : Nat)]) nt
      refine ⟨t, _, rfl, SqT.of upd_same, rfl, ?_⟩
      have hpG0 := y0 _ _ hpG
      have sG0 : But pr H6 (upd G t (.tup [.str nm, .int (m : Nat)])) := sG.trans (Same.but y0)
      have htw0 := two_rt y0 htw
      generalize upd G t (.tup [.str nm, .int (m : Nat)]) = G0 at hpG0 sG0 htw0 ⊢
      walk_at "rd"
      unfold tBM
      walk_at "rd"
      have hrk : (tmRs ([a, b, c, d].zip ms))[j]? = some (tmR nm m) := by
        unfold tmRs
        rw [List.getElem?_map, show ([a, b, c, d].zip ms)[j]? = some (nm, m) by rw [List.getElem?_zip_eq_some]; exact ⟨hnm, hm⟩]
        rfl
      have hul := htw0.length
      rw [List.length_take] at hul
      refine ⟨.inl ⟨rfl, _, SqL.of hpG0⟩, line_ge (by decide), fun a1 b1 => ⟨line_ge (by decide), fun a0 b0 => ⟨line_ge (by decide), fun a2 b2 => ⟨line_ge (by decide), fun a3 b3 => ?_⟩⟩⟩⟩
      have x1 := Same.new (o := .tup [.str "contact", .str nm]) b1
      have y1 := upd_same (H := G0) (a := a1) (o := .tup [.str "contact", .str nm])
      generalize upd G0 a1 (.tup [.str "contact", .str nm]) = G1 at x1 y1 b0 b2 b3 ⊢
      have x0 := Same.new (o := .tup [.str "not", .ref a1]) b0
      have y0 := upd_same (H := G1) (a := a0) (o := .tup [.str "not", .ref a1])
      generalize upd G1 a0 (.tup [.str "not", .ref a1]) = G2 at x0 y0 b2 b3 ⊢
      have x2 := Same.new (o := .tup [.str "timer", .str nm, .int (m : Nat)]) b2
      have y2 := upd_same (H := G2) (a := a2) (o := .tup [.str "timer", .str nm, .int (m : Nat)])
      generalize upd G2 a2 (.tup [.str "timer", .str nm, .int (m : Nat)]) = G3 at x2 y2 b3 ⊢
      have x3 := Same.new (o := .tup [.ref a0, .ref a2]) b3
      have y3 := upd_same (H := G3) (a := a3) (o := .tup [.ref a0, .ref a2])
      generalize upd G3 a3 (.tup [.ref a0, .ref a2]) = G4 at x3 y3 ⊢
      have x := ((x1.trans x0).trans x2).trans x3
      have hp5 := x _ _ hpG0
      refine ⟨pr, us, .ref a3, rfl, rfl, hp5, by rw [sizeLine_eq]; omega, _, _, ⟨rfl, rfl⟩, (sG0.trans (Same.but x)).trans But.upd, _, upd_same, ?_⟩
      have im : Imm (fun _ => False) G4 (upd G4 pr (.lst (us ++ [.ref a3]))) := Imm.mut hp5 id
      rw [List.take_succ, hrk]
      refine (htw0.mono fun _ _ z => (z.mono (T := fun _ => False) (Same.imm x)).mono im).app (.one ?_)
      exact IsRT.mono im ⟨a3, a2, .ref a0, rfl, y3, x3 _ _ y2, .not ((x2.trans x3) _ _ y0) (.contact (((x0.trans x2).trans x3) _ _ y1))⟩
    rintro σ G ⟨v3, v4, us, rfl, sG, hpG, htw⟩
    rw [hzl, ← hrsl, List.take_length] at htw
    have sGH : Same H G := sG.same s6 nr6
    clear w1 w2 w3 w4 e6 f5
    walk_at "rd"
    refine ⟨Nat.zero_le _, fun pe ne => ?_⟩
    have x1 := Same.new (o := .tup []) ne
    have y1 := upd_same (H := G) (a := pe) (o := .tup [])
    generalize upd G pe (.tup []) = G1 at x1 y1 ⊢
    refine ⟨pn, _, 0, .str a, rfl, rfl, SqL.of ((sGH.trans x1) _ _ hN.at_), atI_int (by decide) rfl, line_ge (by show 1 ≤ 1000000; decide), fun po no => ⟨line_ge (by show 3 ≤ 1000000; decide), fun pt npt => ?_⟩⟩
    have x2 := Same.new (o := .tup [.str a]) no
    have y2 := upd_same (H := G1) (a := po) (o := .tup [.str a])
    generalize upd G1 po (.tup [.str a]) = G2 at x2 y2 npt ⊢
    have x3 := Same.new (o := .tup [.ref pe, .ref po, .ref pr]) npt
    have y3 := upd_same (H := G2) (a := pt) (o := .tup [.ref pe, .ref po, .ref pr])
    generalize upd G2 pt (.tup [.ref pe, .ref po, .ref pr]) = G3 at x3 y3 ⊢
    have xx := (x1.trans x2).trans x3
    have hM : IsM G3 pt pe po pr us (tmL ([a, b, c, d].zip ms) a) := ⟨y3, (x2.trans x3) _ _ y1, x3 _ _ y2, xx _ _ hpG, two_rt xx htw⟩
    refine ⟨pt, pe, po, pr, us, _, rfl, hM, R.good, fun H8 xl s8 hL => ?_⟩
    have sG8 := xx.trans s8
    refine ⟨.ref xl, _, 2000, rfl, hL, R.good, by decide, fun N hD _ H9 p ws s9 np hp hw => ?_, fun a h1 _ => absurd (R.done.most a) (by unfold levL at h1; omega)⟩
    obtain rfl := R.done.one hD
    rw [R.levP] at hw
    have hwl := hw.length
    rw [entsR_len] at hwl
    have sG9 := sG8.trans s9
    have hwn : ∀ {H' : Hp}, Same H9 H' → Two (IsEnt H') ws (entsR (tmS ([a, b, c, d].zip ms)) Pn) := fun s => hw.mono fun _ _ h => h.mono (T := fun _ => False) (Same.imm s)
    have hL9 : IsL K cs H9 (.ref xl) (tmL ([a, b, c, d].zip ms) a) := hL.mono (Same.imm s9)
    have hLn : ∀ {H' : Hp}, Same H9 H' → IsL K cs H' (.ref xl) (tmL ([a, b, c, d].zip ms) a) := fun s => hL9.mono (Same.imm s)
    have hent := (entsR_len (tmS ([a, b, c, d].zip ms)) Pn)
    have same : ∀ {H' : Hp} {p2 : Addr} {ws2 : List V} {Q : V → Hp → Prop}, Same H9 H' → H' p2 = some (.lst ws2) → Two (IsEnt H') ws2 (entsR (tmS ([a, b, c, d].zip ms)) Pn) → Q (.bl false) H' → rNeD K (.ref p2) (.ref p) H' Q := fun {H'} {p2} {ws2} {Q} s h2 t2 q => by
      refine ⟨_, _, .lst (SqL.of h2) (ents_dp t2), .lst (SqL.of (s _ _ hp)) (ents_dp (hwn s)), ents_shaped _, ents_shaped _, ?_⟩
      rw [ents_eqv]
      exact q
    refine ⟨fun b H' => b = false ∧ Same H9 H', ?_, ?_⟩
    · walk_at "rd"
      have second : ∀ {H' : Hp}, Same H9 H' → tCallN (0 + 1 + 1 - 1) 1 (fun vs H Q x => spReached K cs xc vs H Q E0) (fun vs zs => vs ++ zs) E0 (tCons (tVar 6) tNil) (tCons (tC (V.int 2000)) tNil) [some (V.ref pn), some (V.int cell), some (V.ref pr), v3, v4, some (V.ref pt), some (V.ref xl), some (V.ref p), none, none, none] H' fun x H1 => rNeD K x (V.ref p) H1 fun x H1 => ∃ k, x = V.bl k ∧ k = false ∧ Same H9 H1 := fun {H'} s => by
        unfold tCallN
        walk_at "rd"
        refine ⟨.ref xl, _, 2000, rfl, hLn s, R.good, by decide, fun N hD _ HC p3 ws3 sC np3 hp3 hw3 => ?_, fun a h1 _ => absurd (R.done.most a) (by unfold levL at h1; omega)⟩
        obtain rfl := R.done.one hD
        rw [R.levP] at hw3
        exact same (s.trans sC) hp3 hw3 ⟨false, rfl, rfl, s.trans sC⟩
      refine ⟨.ref xl, _, Pn, rfl, hL9, R.good, R.done, by omega, fun h5 HA p2 ws2 sA hp2 hw2 => ?_, fun h5 HA sA => ?_⟩
      · rw [R.levP] at hw2
        refine ⟨line_ge (by show 2 ≤ 1000000; decide), fun pz npz => ⟨ws, .inl (SqL.of ((sA.trans (Same.new npz)) _ _ hp)), pz, _, _, .ref p, rfl, rfl, SqL.of upd_same, by rw [decide_eq_false (by omega)]; rfl, .inr ?_⟩⟩
        have uz := Same.new (o := .lst [.ref p, .non]) npz
        refine same (sA.trans uz) (uz _ _ hp2) (hw2.mono fun _ _ h => h.mono (T := fun _ => False) (Same.imm uz)) ?_
        exact ⟨false, rfl, iteF (second (sA.trans uz))⟩
      · refine ⟨line_ge (by show 2 ≤ 1000000; decide), fun pz npz => ⟨ws, .inl (SqL.of ((sA.trans (Same.new npz)) _ _ hp)), pz, _, _, .non, rfl, rfl, SqL.of upd_same, by rw [decide_eq_true (by omega)]; rfl, .inl ⟨rfl, ?_⟩⟩⟩
        exact iteF (second (sA.trans (Same.new npz)))
    rintro b0 HB ⟨rfl, sB⟩
    refine iteF ?_
    walk_at "rd"
    have sMB : Same G3 HB := (s8.trans s9).trans sB
    have hMB := hM.keep sMB
    refine ⟨pr, us, _, rfl, hMB.hp, hMB.two, by rw [show (tmL ([a, b, c, d].zip ms) a).rs = tmRs ([a, b, c, d].zip ms) from rfl, hrsl]; omega, fun HC d0 kvs0 sC hd0 hM0 => ?_⟩
    rw [← mem_new, R.new] at hM0
    have sBC := sB.trans sC
    have hMC := hMB.keep sC
    refine ⟨_, rfl, p, rfl, _, .inl (SqL.of (sBC _ _ hp)), ?_⟩
    rw [hwl]
    refine ⟨_, rfl, by omega, by omega, ?_⟩
    rw [show ((Pn : Nat) : Int).toNat = Pn from rfl]
    refine for_range (lo := 0) (n := Pn) (fun i σ H' => ∃ (v9 : Option V) (dk : Addr) (kvs : List (Str × V)), σ = [some (.ref pn), some (.int cell), some (.ref pr), v3, v4, some (.ref pt), some (.ref xl), some (.ref p), some (.ref dk), v9, none] ∧ Same HC H' ∧ H' dk = some (.dK (dL id kvs)) ∧ MemD H' kvs (memOf (writ (tmL ([a, b, c, d].zip ms) a).rs) (tmK ([a, b, c, d].zip ms) i))) ⟨none, d0, kvs0, rfl, Same.refl _, hd0, hM0⟩ ?_ ?_
    · rintro i σ HD hi ⟨v9, dd, kvs, rfl, sD, hd, hMD⟩
      walk_at "rd"
      rw [Int.zero_add]
      have sBD := sBC.trans sD
      have hMD2 := hMC.keep sD
      obtain ⟨wv, hwv⟩ : ∃ wv, ws[i]? = some wv := ⟨_, List.getElem?_eq_getElem (by omega)⟩
      obtain ⟨e, he, te, rfl, hte⟩ := hw.at hwv
      rw [entsR_at _ hi] at he
      cases he
      refine ⟨p, _, _, .ref te, rfl, rfl, SqL.of (sBD _ _ hp), atI_nat hwv, pr, dd, us, _, kvs, _, rfl, hMD2.hp, hMD2.two, by rw [show (tmL ([a, b, c, d].zip ms) a).rs = tmRs ([a, b, c, d].zip ms) from rfl, hrsl]; omega, hd, hMD, R.fits i, R.good.fit, R.cnt i, fun HE sE => ?_⟩
      rw [R.num]
      refine ⟨line_ge (by decide), fun tz ntz => ?_⟩
      have uz := Same.new (o := .tup [.int (tmS ([a, b, c, d].zip ms) i : Nat), .int ((i : Int) - 1), .int (0 - if decide ((i : Int) = 0) = true then 1 else 0)]) ntz
      have hz := upd_same (H := HE) (a := tz) (o := .tup [.int (tmS ([a, b, c, d].zip ms) i : Nat), .int ((i : Int) - 1), .int (0 - if decide ((i : Int) = 0) = true then 1 else 0)])
      generalize upd HE tz (.tup [.int (tmS ([a, b, c, d].zip ms) i : Nat), .int ((i : Int) - 1), .int (0 - if decide ((i : Int) = 0) = true then 1 else 0)]) = HF at uz hz ⊢
      have ez : (0 - if decide ((i : Int) = 0) = true then 1 else 0 : Int) = if i = 0 then -1 else 0 := by
        by_cases h0 : i = 0
        · subst h0; rfl
        · rw [decide_eq_false (by omega), if_neg h0]
          rfl
      rw [ez] at hz
      have sEF := sE.trans uz
      refine ⟨entD (entR (tmS ([a, b, c, d].zip ms)) i), entD (entR (tmS ([a, b, c, d].zip ms)) i), .tup (SqT.of ((sBD.trans sEF) _ _ hte)) (.cons (.int _) (.cons (.int _) (.cons (.int _) .nil))), .tup (SqT.of hz) (.cons (.int _) (.cons (.int _) (.cons (.int _) .nil))), ent_shaped (entR (tmS ([a, b, c, d].zip ms)) i), ent_shaped (entR (tmS ([a, b, c, d].zip ms)) i), ?_⟩
      rw [ent_eqv]
      refine ⟨false, rfl, iteF ?_⟩
      refine ⟨pt, dd, pe, po, pr, us, _, kvs, _, 0, rfl, hMD2.keep sEF, sEF _ _ hd, hMD.mono (T := fun _ => False) (Same.imm sEF), R.fits i, R.good, R.good.fit, fun HG r d2 kvs2 sG hr hd2 hMG => ?_⟩
      refine ⟨r, _, 0, .ref d2, rfl, rfl, SqT.of hr, atI_int (by decide) rfl, _, d2, ⟨rfl, rfl⟩, (sD.trans sEF).trans sG, kvs2, hd2, ?_⟩
      rw [← R.next i]
      unfold nextK
      rw [memOf_kept]
      exact hMG
    rintro σ HD ⟨v9, dd, kvs, rfl, sD, hd, hMD⟩
    walk_at "rd"
    have sBD := sBC.trans sD
    have hF : Found (2 ^ (tmL ([a, b, c, d].zip ms) a).ins.length) (stepS (tmL ([a, b, c, d].zip ms) a)) (entsR (tmS ([a, b, c, d].zip ms)) Pn) Pn := by
      rw [← R.levP]
      exact lev_found Pn
    refine ⟨ws, .inl (SqL.of (sBD _ _ hp)), by omega, ?_⟩
    rw [hwl]
    obtain ⟨at_, hat_, hatP⟩ : ∃ x : Nat, cell / 4 % ((Pn : Nat) : Int) = (x : Int) ∧ x < Pn := by
      have h1 := Int.emod_nonneg (cell / 4) (show ((Pn : Nat) : Int) ≠ 0 by omega)
      have h2 := Int.emod_lt_of_pos (cell / 4) (show (0 : Int) < ((Pn : Nat) : Int) by omega)
      exact ⟨(cell / 4 % ((Pn : Nat) : Int)).toNat, by omega, by omega⟩
    rw [hat_]
    have noughts : ∀ n : Nat, (List.replicate n [V.int 0]).flatten = (List.replicate n 0).map fun n : Nat => V.int n := fun n => by
      induction n with
      | zero => rfl
      | succ n ih => rw [List.replicate_succ, List.flatten_cons, ih, List.replicate_succ]; rfl
    refine ⟨fun b H' => b = false ∧ Same HD H', ?_, ?_⟩
    · walk_at "rd"
      refine ⟨ws, .inl (SqL.of (sBD _ _ hp)), p, ws, _, Pn, _, _, Pn - 1, by rw [hwl, show (((Pn - 1 : Nat)) : Int) = ((Pn : Nat) : Int) - 1 by omega], sBD _ _ hp, hwn (sB.trans (sC.trans sD)), hF, by rw [entsR_len]; omega, by rw [entsR_len]; omega, fun HE q1 sE nq1 hq1 => ?_⟩
      rw [R.way _ (by omega)] at hq1
      refine ⟨line_ge (by decide), fun q2 nq2 => ?_⟩
      have uE := Same.new (o := .lst [.int 0]) nq2
      have hq2 := upd_same (H := HE) (a := q2) (o := .lst [.int 0])
      generalize upd HE q2 (.lst [.int 0]) = HF at uE hq2 ⊢
      have sDF := sE.trans uE
      refine ⟨ws, .inl (SqL.of ((sBD.trans sDF) _ _ hp)), q2, _, _, rfl, rfl, hq2, by omega, by omega, ?_, fun q3 nq3 => ?_⟩
      · rw [sizeLine_eq]
        simp
        omega
      have uF := Same.new (o := .lst (List.replicate (((ws.length : Nat) : Int) - 1).toNat [V.int 0]).flatten) nq3
      have hq3 := upd_same (H := HF) (a := q3) (o := .lst (List.replicate (((ws.length : Nat) : Int) - 1).toNat [V.int 0]).flatten)
      generalize upd HF q3 (.lst (List.replicate (((ws.length : Nat) : Int) - 1).toNat [V.int 0]).flatten) = HG at uF hq3 ⊢
      rw [noughts, show (((ws.length : Nat) : Int) - 1).toNat = Pn - 1 by omega] at hq3
      have sDG := sDF.trans uF
      refine ⟨_, _, .lst (SqL.of ((uE.trans uF) _ _ hq1)) (nats_dp _), .lst (SqL.of hq3) (nats_dp _), nats_shaped _, nats_shaped _, ?_⟩
      rw [nats_eqv]
      refine ⟨false, rfl, iteF ?_⟩
      refine ⟨p, ws, _, Pn, _, _, at_, rfl, (sBD.trans sDG) _ _ hp, hwn ((sB.trans (sC.trans sD)).trans sDG), hF, by rw [entsR_len]; omega, by rw [entsR_len]; omega, fun HI q5 sI nq5 hq5 => ?_⟩
      rw [R.way _ (by omega)] at hq5
      refine ⟨line_ge (by decide), fun q6 nq6 => ?_⟩
      have uI := Same.new (o := .lst [.int 0]) nq6
      have hq6 := upd_same (H := HI) (a := q6) (o := .lst [.int 0])
      generalize upd HI q6 (.lst [.int 0]) = HJ at uI hq6 ⊢
      refine ⟨q6, _, _, rfl, rfl, hq6, by omega, by omega, ?_, fun q7 nq7 => ?_⟩
      · rw [sizeLine_eq]
        simp
        omega
      have uJ := Same.new (o := .lst (List.replicate ((at_ : Nat) : Int).toNat [V.int 0]).flatten) nq7
      have hq7 := upd_same (H := HJ) (a := q7) (o := .lst (List.replicate ((at_ : Nat) : Int).toNat [V.int 0]).flatten)
      generalize upd HJ q7 (.lst (List.replicate ((at_ : Nat) : Int).toNat [V.int 0]).flatten) = HK at uJ hq7 ⊢
      rw [noughts, show ((at_ : Nat) : Int).toNat = at_ from rfl] at hq7
      refine ⟨_, _, .lst (SqL.of ((uI.trans uJ) _ _ hq5)) (nats_dp _), .lst (SqL.of hq7) (nats_dp _), nats_shaped _, nats_shaped _, ?_⟩
      rw [nats_eqv]
      exact ⟨false, rfl, rfl, (sDG.trans sI).trans (uI.trans uJ)⟩
    rintro b0 HE ⟨rfl, sE⟩
    refine iteF ?_
    walk_at "rd"
    have sBE := sBD.trans sE
    refine ⟨ws, .inl (SqL.of (sBE _ _ hp)), line_ge (by show 4 ≤ 1000000; decide), fun q8 nq8 => ⟨q8, _, _, .int (Pn : Nat), rfl, rfl, SqL.of upd_same, hpat, ?_⟩⟩
    have uK := Same.new (o := .lst [.int 630, .int 504, .int 360, .int 1260]) nq8
    generalize upd HE q8 (.lst [.int 630, .int 504, .int 360, .int 1260]) = HL at uK ⊢
    rw [hwl]
    refine ⟨rfl, ?_⟩
    rw [decide_eq_true rfl]
    have sEL := sE.trans uK
    have hML := hMC.keep (sD.trans sEL)
    refine iteT ⟨pr, dd, us, _, kvs, _, rfl, hML.hp, hML.two, by rw [show (tmL ([a, b, c, d].zip ms) a).rs = tmRs ([a, b, c, d].zip ms) from rfl, hrsl]; omega, sEL _ _ hd, hMD.mono (T := fun _ => False) (Same.imm sEL), R.fits Pn, R.good.fit, R.cnt Pn, fun HM sM => ?_⟩
    rw [R.num, R.back]
    refine ⟨rfl, ?_⟩
    show Q (.bl (decide (V.int 0 = V.int 0))) HM
    rw [decide_eq_true rfl]
    exact k _ (((sGH.trans (xx.trans sMB)).trans sC).trans ((sD.trans sEL).trans sM))
end

--%% NS
/-! ## k55: the law -/
abbrev s_law : Stmt := top 83
theorem sc_law : FnScope ["_law_script", "_law_model", "_law_found", "_law_many", "_law_states", "_law_one", "_law_place", "_law_memory", "_law_number", "_law_k"] ["_law_script"] (defScope s_law) := ⟨rfl, rfl, rfl, by decide +kernel, rfl, by decide +kernel, by decide +kernel⟩
structure Txt (K : PySem.W.Frag) (mg : Str → Option Value) (cs : Cs) (cc : Addr) (xc : Xc) (cw : Addr) : Prop where
  law : LawAt K mg s_law "_law_script"
  own : TOwn K mg cs cc xc cw
  small : TSmall K mg
  z_len : mg "len" = none
  z_range : mg "range" = none
/-- what is kept behind a run -/
def kRun (l : Lad) (w : List Nat) : Ws := w.foldl (nextK l) (keptW l (wNew l))
theorem kRun_snoc (l : Lad) (w : List Nat) (r : Nat) : kRun l (w ++ [r]) = nextK l (kRun l w) r := by
  unfold kRun
  rw [List.foldl_append]
  rfl
theorem kRun_ok {l : Lad} (hg : l.good) (w : List Nat) : KFits l (kRun l w) ∧ Cnted l.rs (kRun l w) ∧ stateL l.rs (kRun l w) (writ l.rs) = runS (stepS l) 0 w :=
  snoc_ind (p := fun w => KFits l (kRun l w) ∧ Cnted l.rs (kRun l w) ∧ stateL l.rs (kRun l w) (writ l.rs) = runS (stepS l) 0 w) ⟨keptW_fits (fits_new l), (Cnted.new hg.fit).kept, state_new l hg.fit⟩ (fun w r ⟨f, c, e⟩ => by
    rw [kRun_snoc, runS_snoc, ← e]
    refine ⟨nextK_fits f r, nextK_cnted hg.fit f c r, ?_⟩
    unfold stepS
    rw [kAt_state hg f c]) w
theorem run_in {S : Nat → Nat → Nat} {R N : Nat} (d : Done S R N) (w : List Nat) : (∀ r ∈ w, r < R) → runS S 0 w ∈ stsL (lev S R N) := snoc_ind (p := fun w => (∀ r ∈ w, r < R) → runS S 0 w ∈ stsL (lev S R N)) (fun _ => Done.zero) (fun w r ih h => by
  rw [runS_snoc]
  exact d.closed (ih fun x hx => h x (List.mem_append_left _ hx)) (h r (List.mem_append_right _ List.mem_cons_self))) w
theorem in_sts {s : Nat} {L : List Nat} (h : s ∈ L) : inV (.int (s : Nat)) (L.map fun n : Nat => V.int n) = true := by
  unfold inV
  rw [List.any_eq_true]
  exact ⟨_, List.mem_map.mpr ⟨s, h, rfl⟩, by simp [eqV]⟩
theorem flat_sts (L : List Nat) : (L.map fun n : Nat => V.int n).all flatV = true := by
  rw [List.all_eq_true]
  intro x hx
  obtain ⟨n, _, rfl⟩ := List.mem_map.mp hx
  rfl
section
variable {P : Program} {w : World} {K : PySem.W.Frag} {mg : Str → Option Value} {base : Heap} {cs : Cs} {cc : Addr} {xc : Xc} {cw : Addr}
theorem ok_law (T0 : Txt K mg cs cc xc cw) {f : Addr} {fd : FuncData} (F : Fun K "law" "law" s_law f fd) : FnOk P w K mg base CX0 50 f fd ["_law_script"] (spLaw K) := by
  have G__law_mixed : FnAt P w K mg base CX0 "_law_mixed" 1 _ spMixed := ok_mixed T0.small.tree.cells
  have G__law_cell_at : FnAt P w K mg base CX0 "_law_cell_at" 2 _ (spCellAt K) := ok_cell_at T0.small.tree.cells
  have G__law_names : FnAt P w K mg base CX0 "_law_names" 2 _ spNames := ok_names T0.small.nms
  have G__law_small := ok_small (P := P) (w := w) (base := base) T0.small
  have G__law_made := ok_madeL (P := P) (w := w) (base := base) T0.own.made
  have G__law_long_right := ok_longR (P := P) (w := w) (base := base) T0.own
  have G__law_begun := ok_begun (P := P) (w := w) (base := base) T0.own.lscan
  have G__law_scanned := ok_scanned (P := P) (w := w) (base := base) T0.own.lscan
  have G__law_state := ok_stateM (P := P) (w := w) (base := base) T0.own.lst
  have G_run_to := ok_run_to (P := P) (w := w) (base := base) T0.own.rch
  have GD_reached := (ok_reached (P := P) (w := w) (base := base) T0.own.rch).calm
  have T := T0
  refine F.ok sc_law (fun vs H Q E h => ?_) (fun cdv A outer st H vs Q E hr h => ?_)
  · obtain ⟨a, script, rfl, _⟩ := h; rfl
  · obtain ⟨a, script, rfl, hS, hlen, k⟩ := h
    have hu := hu_of hr
    refine ⟨_, (pss_cons (ps_if (pt_cmpR op_eq (pe_op op_mod (pe_callF G__law_cell_at hr pass0 (pa_cons (pv 0) (pa_cons pe_int pa_nil))) pe_int) pe_int (nomark _)) (pss_one (ps_ret (pe_callF G__law_long_right hr pass0 (pa_cons (pe_callF G__law_names hr pass0 (pa_cons (pe_callF G__law_cell_at hr pass0 (pa_cons (pv 0) (pa_cons pe_int pa_nil))) (pa_cons pe_int pa_nil))) (pa_cons (pe_callF G__law_cell_at hr pass0 (pa_cons (pv 0) (pa_cons pe_int pa_nil))) pa_nil))))) pss_nil)
        (pss_cons (ps_set (i := 1) sc_law.nd rfl (by first | exact Or.inl rfl | exact Or.inr rfl) (pe_callF G__law_small hr pass0 (pa_cons (pv 0) (pa_cons pe_int (pa_cons pe_bl pa_nil)))))
        (pss_cons (ps_set (i := 2) sc_law.nd rfl (by first | exact Or.inl rfl | exact Or.inr rfl) (pe_callFD GD_reached hr pass0 (pa_cons (pe_callF G__law_made hr pass0 (pa_cons (pv 1) pa_nil)) pa_nil)))
        (pss_cons (ps_set (i := 3) sc_law.nd rfl (by first | exact Or.inl rfl | exact Or.inr rfl) (pe_op op_shl pe_int (pe_callB call_len_seq (by rfl) T.z_len PySem.boot_len (pa_cons (pe_ix ix_tup (pv 1) pe_int (fun _ _ => rfl)) pa_nil))))
        (pss_cons (ps_setLc (i := 4) (own := [("_law_one", 5)]) (g := gName 5) (tt := tYes) rfl sc_law.nd rfl rfl (sw_true rfl rfl rfl (by decide +kernel)) (pi_list (pv 2)) (blkOk_by (own := [("_law_one", 5)]) (N := ["_law_script", "_law_model", "_law_found", "_law_many", "_law_states", "_law_one", "_law_place", "_law_memory", "_law_number", "_law_k"]) (sc := defScope s_law) (by decide +kernel)) (fun _ _ _ _ _ => pg_name (i := 5) sc_law.nd rfl (Or.inl rfl)) (fun _ _ _ _ _ => pts_nil) (fun _ _ _ _ _ => (pe_ix (ix_tupK K rfl) (pv 5) pe_int (fun _ _ => rfl))))
        (pss_cons (ps_for PassesOwn.never rfl (pi_range1 rfl T.z_range (pa_cons (pe_callB call_len_seq (by rfl) T.z_len PySem.boot_len (pa_cons (pv 2) pa_nil)) pa_nil)) (pg_name (i := 6) sc_law.nd rfl (by first | exact Or.inl rfl | exact Or.inr rfl)) (pss_cons (ps_set (i := 7) sc_law.nd rfl (by first | exact Or.inl rfl | exact Or.inr rfl) (pe_callF G__law_begun hr pass0 (pa_cons (pe_ix ix_tup (pv 1) pe_int (fun _ _ => rfl)) pa_nil)))
          (pss_cons (ps_for PassesOwn.never rfl (pi_list (pe_callF G_run_to hr pass0 (pa_cons (pv 2) (pa_cons (pv 6) pa_nil)))) (pg_name (i := 8) sc_law.nd rfl (by first | exact Or.inl rfl | exact Or.inr rfl)) (pss_one (ps_set (i := 7) sc_law.nd rfl (by first | exact Or.inl rfl | exact Or.inr rfl) (pe_ix ix_tup (pe_callF G__law_scanned hr pass0 (pa_cons (pv 1) (pa_cons (pv 7) (pa_cons (pv 8) pa_nil)))) pe_int (fun _ _ => rfl)))))
          (pss_cons (ps_if (pt_cmpR op_ne (pe_callF G__law_state hr pass0 (pa_cons (pe_ix ix_tup (pv 1) pe_int (fun _ _ => rfl)) (pa_cons (pv 7) pa_nil))) (pe_ix ix_list (pv 4) (pv 6) (fun _ _ => rfl)) (nomark _)) (pss_one (ps_ret pe_bl)) pss_nil)
          (pss_one (ps_for PassesOwn.never rfl (pi_range1 rfl T.z_range (pa_cons (pv 3) pa_nil)) (pg_name (i := 8) sc_law.nd rfl (by first | exact Or.inl rfl | exact Or.inr rfl)) (pss_one (ps_if (pt_cmpR op_notIn_seq (pe_callF G__law_state hr pass0 (pa_cons (pe_ix ix_tup (pv 1) pe_int (fun _ _ => rfl)) (pa_cons (pe_ix ix_tup (pe_callF G__law_scanned hr pass0 (pa_cons (pv 1) (pa_cons (pv 7) (pa_cons (pv 8) pa_nil)))) pe_int (fun _ _ => rfl)) pa_nil))) (pv 4) rfl) (pss_one (ps_ret pe_bl)) pss_nil))))))))
        (pss_cons (ps_set (i := 7) sc_law.nd rfl (by first | exact Or.inl rfl | exact Or.inr rfl) (pe_callF G__law_begun hr pass0 (pa_cons (pe_ix ix_tup (pv 1) pe_int (fun _ _ => rfl)) pa_nil)))
        (pss_cons (ps_for PassesOwn.never rfl (pi_range1 rfl T.z_range (pa_cons (pe_op op_mod (pe_callF G__law_cell_at hr pass0 (pa_cons (pv 0) (pa_cons pe_int pa_nil))) pe_int) pa_nil)) (pg_name (i := 9) sc_law.nd rfl (by first | exact Or.inl rfl | exact Or.inr rfl)) (pss_cons (ps_set (i := 8) sc_law.nd rfl (by first | exact Or.inl rfl | exact Or.inr rfl) (pe_op op_mod (pe_callF G__law_mixed hr pass0 (pa_cons (pe_callF G__law_cell_at hr pass0 (pa_cons (pv 0) (pa_cons (pe_op op_add pe_int (pe_op op_mod (pv 9) pe_int)) pa_nil))) (pa_cons (pv 9) pa_nil))) (pv 3)))
          (pss_cons (ps_set (i := 7) sc_law.nd rfl (by first | exact Or.inl rfl | exact Or.inr rfl) (pe_ix ix_tup (pe_callF G__law_scanned hr pass0 (pa_cons (pv 1) (pa_cons (pv 7) (pa_cons (pv 8) pa_nil)))) pe_int (fun _ _ => rfl)))
          (pss_one (ps_if (pt_cmpR op_notIn_seq (pe_callF G__law_state hr pass0 (pa_cons (pe_ix ix_tup (pv 1) pe_int (fun _ _ => rfl)) (pa_cons (pv 7) pa_nil))) (pv 4) rfl) (pss_one (ps_ret pe_bl)) pss_nil)))))
        (pss_one (ps_ret pe_bl)))))))))), ?_⟩
    walk_at "rd"
    refine ⟨a, script, 7, rfl, hS, by decide, fun c0 _ _ _ => ⟨c0, rfl, ?_⟩⟩
    refine ite2 (fun _ => ?_) (fun _ => ?_)
    · refine ⟨a, script, 0, rfl, hS, by decide, fun c1 hc1 _ _ => ⟨c1, 4, rfl, hc1, by decide, by decide, fun H1 p ns s1 np hN => ⟨a, script, 8, rfl, Same.seq s1 hS, by decide, fun c8 hc8 _ _ => ⟨p, ns, c8, rfl, hN, hc8, fun H2 s2 => k _⟩⟩⟩⟩
    refine ⟨a, script, 0, rfl, hS, by decide, fun H1 t ti to p0 ws0 l s1 hM hg hf => ⟨t, ti, to, p0, ws0, l, rfl, hM, hg, fun H2 xl s2 hL => ?_⟩⟩
    obtain ⟨N, hN, hD⟩ := few_done hg hf
    obtain ⟨f1, f2, f3, f4, f5, f6, f7, f8, f9⟩ := (fair_iff l).mp hg.fair
    have hM2 := hM.keep s2
    have s02 := s1.trans s2
    refine ⟨.ref xl, l, 500, rfl, hL, hg, by decide, fun N' hD' _ H3 p ws s3 np hp hw => ?_, fun a h1 _ => absurd (hD.most a) (by unfold levL at h1; omega)⟩
    obtain rfl := hD.one hD'
    have hlN : (levL l N).length = N := hD.len
    have hwl := hw.length
    have hM3 := hM2.keep s3
    have s03 := s02.trans s3
    refine ⟨t, _, 0, .ref ti, rfl, rfl, SqT.of hM3.at_, atI_int (by decide) rfl, ti, rfl, _, .inr (SqT.of hM3.hi), ?_⟩
    rw [List.length_map]
    refine ⟨⟨by omega, by omega, by decide⟩, ?_⟩
    rw [Int.toNat_natCast, Int.one_mul]
    have hpow : ((2 : Int) ^ l.ins.length) = ((2 ^ l.ins.length : Nat) : Int) := by rw [Int.natCast_pow]; rfl
    rw [hpow]
    have hR2 : 2 ^ l.ins.length ≤ 64 := Nat.pow_le_pow_right (by decide) f1
    have hRi : ((2 ^ l.ins.length : Nat) : Int) ≤ 64 := by exact_mod_cast hR2
    have hRn : (0 : Int) ≤ ((2 ^ l.ins.length : Nat) : Int) := Int.natCast_nonneg _
    have hRp : 0 < 2 ^ l.ins.length := Nat.two_pow_pos _
    have hF : Found (2 ^ l.ins.length) (stepS l) (levL l N) N := lev_found N
    have hstl : (stsL (levL l N)).length = N := by unfold stsL; rw [List.length_map]; exact hlN
    refine ⟨_, rfl, p, rfl, ⟨_, SqL.of hp⟩, fun D nD => lc_list (K := K) (a := p) (xs := ws) (fun i H' => Same H3 H' ∧ H' D = some (.lst (((stsL (levL l N)).take i).map fun n : Nat => V.int n))) ⟨Same.new nD, upd_same⟩ (fun i H' _ q => SqL.of (q.1 _ _ hp)) ?_ ?_⟩
    · rintro i y H4 hy ⟨q1, q2⟩
      obtain ⟨e, he, te, rfl, hte⟩ := hw.at hy
      refine ⟨rfl, ?_⟩
      walk_at "rd"
      have hel : (stsL (levL l N))[i]? = some e.1 := by unfold stsL; rw [List.getElem?_map, he]; rfl
      unfold tYes
      refine iteT ⟨te, _, 0, .int (e.1 : Nat), rfl, rfl, SqT.of (q1 _ _ hte), atI_int (by decide) rfl, _, q2, ?_, Same.mut q1 nD, ?_⟩
      · rw [sizeLine_eq, List.length_map, List.length_take]
        omega
      · rw [upd_same, List.take_succ, hel, List.map_append]
        rfl
    rintro H4 ⟨s4, hst⟩
    rw [show (stsL (levL l N)).take ws.length = stsL (levL l N) from List.take_of_length_le (by omega)] at hst
    walk_at "rd"
    have hM4 := hM3.keep s4
    have s04 := s03.trans s4
    have hp4 := s4 _ _ hp
    have hw4 : ∀ {H' : Hp}, Same H4 H' → Two (IsEnt H') ws (levL l N) := fun s => hw.mono fun _ _ h => h.mono (T := fun _ => False) (Same.imm (s4.trans s))
    have hl30 : l.rs.length ≤ 30 := f5.2
    refine ⟨_, rfl, p, rfl, _, .inl (SqL.of hp4), ?_⟩
    rw [hwl, hlN]
    refine ⟨_, rfl, by omega, by omega, ?_⟩
    rw [show ((N : Nat) : Int).toNat = N from rfl]
    have begun : ∀ {H' : Hp} {Q : V → Hp → Prop}, Same H4 H' → (∀ (H2 : Hp) (d : Addr) (kvs : List (Str × V)), Same H' H2 → H2 d = some (.dK (dL id kvs)) → MemD H2 kvs (memOf (writ l.rs) (kRun l [])) → Q (.ref d) H2) → rIxT K (.ref t) (.int 2) H' fun x H1 => spBegun [x] H1 Q E0 := fun {H'} {Q} s q => by
      have hM' := hM4.keep s
      refine ⟨t, _, 2, .ref p0, rfl, rfl, SqT.of hM'.at_, atI_int (by decide) rfl, p0, ws0, l, rfl, hM'.hp, hM'.two, hl30, fun H2 d kvs s2 hd hMD => q H2 d kvs s2 hd ?_⟩
      rw [← mem_new] at hMD
      exact hMD
    have scanned : ∀ {H' : Hp} {Q : V → Hp → Prop} {d : Addr} {kvs : List (Str × V)} {way : List Nat} {n : Nat}, Same H4 H' → H' d = some (.dK (dL id kvs)) → MemD H' kvs (memOf (writ l.rs) (kRun l way)) → (∀ (H2 : Hp) (d2 : Addr) (kvs2 : List (Str × V)), Same H' H2 → H2 d2 = some (.dK (dL id kvs2)) → MemD H2 kvs2 (memOf (writ l.rs) (kRun l (way ++ [n]))) → Q (.ref d2) H2) → spScanned [.ref t, .ref d, .int (n : Nat)] H' (fun x H1 => rIxT K x (.int 0) H1 Q) E0 := fun {H'} {Q} {d} {kvs} {way} {n} s hd hMD q => by
      have hM' := hM4.keep s
      obtain ⟨kf, kc, _⟩ := kRun_ok hg way
      refine ⟨t, d, ti, to, p0, ws0, l, kvs, _, n, rfl, hM', hd, hMD, kf, hg, hg.fit, fun HG r d2 kvs2 sG hr hd2 hMG => ⟨r, _, 0, .ref d2, rfl, rfl, SqT.of hr, atI_int (by decide) rfl, q HG d2 kvs2 sG hd2 ?_⟩⟩
      rw [kRun_snoc]
      unfold nextK
      rw [memOf_kept]
      exact hMG
    have stated : ∀ {H' : Hp} {Q : V → Hp → Prop} {d : Addr} {kvs : List (Str × V)} {way : List Nat}, Same H4 H' → H' d = some (.dK (dL id kvs)) → MemD H' kvs (memOf (writ l.rs) (kRun l way)) → (∀ H2 : Hp, Same H' H2 → Q (.int (runS (stepS l) 0 way : Nat)) H2) → spStateM [.ref p0, .ref d] H' Q E0 := fun {H'} {Q} {d} {kvs} {way} s hd hMD q => by
      have hM' := hM4.keep s
      obtain ⟨kf, kc, ks⟩ := kRun_ok hg way
      refine ⟨p0, d, ws0, l, kvs, _, rfl, hM'.hp, hM'.two, hl30, hd, hMD, kf, hg.fit, kc, fun H2 s2 => ?_⟩
      rw [ks]
      exact q H2 s2
    have inside : ∀ {H' : Hp} {Q : V → Hp → Prop} {way : List Nat}, Same H4 H' → (∀ r ∈ way, r < 2 ^ l.ins.length) → Q (.bl false) H' → rIn K true (.int (runS (stepS l) 0 way : Nat)) (.ref D) H' Q := fun {H'} {Q} {way} s hway q => by
      refine ⟨D, _, rfl, .inl (SqL.of (s _ _ hst)), rfl, flat_sts _, ?_⟩
      have hin : runS (stepS l) 0 way ∈ stsL (levL l N) := run_in hD way hway
      rw [in_sts hin]
      exact q
    refine for_range (lo := 0) (n := N) (fun i σ H' => ∃ v6 v7 v8 : Option V, σ = [some (.ref a), some (.ref t), some (.ref p), some (.int (2 ^ l.ins.length : Nat)), some (.ref D), none, v6, v7, v8, none] ∧ Same H4 H') ⟨none, none, none, rfl, Same.refl _⟩ ?_ ?_
    · rintro i σ H5 hi ⟨v6, v7, v8, rfl, s5⟩
      have hil : i < (levL l N).length := by rw [hlN]; exact hi
      have hwlt := path_lt hF i hil
      have hwr := path_run hF i hil
      walk_at "rd"
      rw [Int.zero_add]
      refine begun s5 fun H6 d0 kvs0 s6 hd0 hM0 => ?_
      have s46 := s5.trans s6
      refine ⟨_, rfl, _, rfl, p, ws, levL l N, N, _, _, i, rfl, s46 _ _ hp4, hw4 s46, hF, hil, by omega, fun H7 q s7 nq hq => ?_⟩
      have s47 := s46.trans s7
      refine ⟨q, rfl, ⟨_, SqL.of hq⟩, for_list (K := K) (a := q) (xs := (path (levL l N) i).map fun n : Nat => V.int n) (fun j σ H' => ∃ (v8 : Option V) (dk : Addr) (kvs : List (Str × V)), σ = [some (.ref a), some (.ref t), some (.ref p), some (.int (2 ^ l.ins.length : Nat)), some (.ref D), none, some (.int (i : Nat)), some (.ref dk), v8, none] ∧ Same H7 H' ∧ H' dk = some (.dK (dL id kvs)) ∧ MemD H' kvs (memOf (writ l.rs) (kRun l ((path (levL l N) i).take j)))) ⟨_, d0, kvs0, rfl, Same.refl _, s7 _ _ hd0, hM0.mono (T := fun _ => False) (Same.imm s7)⟩ (fun j σ H' _ ⟨_, _, _, _, z, _⟩ => SqL.of (z _ _ hq)) ?_ ?_⟩
      · rintro j y σ H8 hy ⟨v8, dk, kvs, rfl, s8, hd, hMD⟩
        rw [List.getElem?_map] at hy
        obtain ⟨n, hn, rfl⟩ := Option.map_eq_some_iff.mp hy
        walk_at "rd"
        refine scanned (s47.trans s8) hd hMD fun H9 d2 kvs2 s9 hd2 hM2 => ?_
        refine ⟨_, d2, ⟨rfl, rfl⟩, s8.trans s9, kvs2, hd2, ?_⟩
        rw [List.take_succ, hn]
        exact hM2
      rintro σ H8 ⟨v8, dk, kvs, rfl, s8, hd, hMD⟩
      rw [List.length_map, List.take_length] at hMD
      have s48 := s47.trans s8
      walk_at "rd"
      have hM8 := hM4.keep s48
      refine ⟨t, _, 2, .ref p0, rfl, rfl, SqT.of hM8.at_, atI_int (by decide) rfl, stated s48 hd hMD fun H9 s9 => ?_⟩
      have s49 := s48.trans s9
      rw [hwr]
      obtain ⟨sv, hsv⟩ : ∃ sv, (stsL (levL l N))[i]? = some sv := ⟨_, List.getElem?_eq_getElem (by omega)⟩
      have hsv2 : stAt (levL l N) i = sv := by
        unfold stsL at hsv
        rw [List.getElem?_map] at hsv
        obtain ⟨e, he, rfl⟩ := Option.map_eq_some_iff.mp hsv
        unfold stAt
        rw [List.getD_eq_getElem?_getD, he]
        rfl
      rw [hsv2]
      refine ⟨D, _, _, .int (sv : Nat), rfl, rfl, SqL.of (s49 _ _ hst), atI_nat (by rw [List.getElem?_map, hsv]; rfl), rfl, ?_⟩
      rw [show (!decide (V.int (sv : Nat) = V.int (sv : Nat))) = false by rw [decide_eq_true rfl]; rfl]
      refine iteF ?_
      refine ⟨_, rfl, ?_⟩
      show ∃ j : Int, [V.int ((2 ^ l.ins.length : Nat) : Int)] = [.int j] ∧ -(2 ^ 62) ≤ j ∧ j < 2 ^ 62 ∧ _
      refine ⟨_, rfl, by omega, by omega, ?_⟩
      rw [show (((2 ^ l.ins.length : Nat) : Int)).toNat = 2 ^ l.ins.length from rfl]
      have hd9 := s9 _ _ hd
      have hMD9 := hMD.mono (T := fun _ => False) (Same.imm s9)
      refine for_range (lo := 0) (n := 2 ^ l.ins.length) (fun r σ H' => ∃ v8 : Option V, σ = [some (.ref a), some (.ref t), some (.ref p), some (.int (2 ^ l.ins.length : Nat)), some (.ref D), none, some (.int (i : Nat)), some (.ref dk), v8, none] ∧ Same H9 H') ⟨v8, rfl, Same.refl _⟩ ?_ ?_
      · rintro r σ HA hr ⟨v8, rfl, sA⟩
        walk_at "rd"
        rw [Int.zero_add]
        have s4A := s49.trans sA
        have hMA := hM4.keep s4A
        refine ⟨t, _, 2, .ref p0, rfl, rfl, SqT.of hMA.at_, atI_int (by decide) rfl, scanned s4A (sA _ _ hd9) (hMD9.mono (T := fun _ => False) (Same.imm sA)) fun HB d2 kvs2 sB hd2 hM2 => ?_⟩
        have s4B := s4A.trans sB
        refine stated s4B hd2 hM2 fun HC sC => ?_
        refine inside (s4B.trans sC) (fun x hx => ?_) ?_
        · rcases List.mem_append.mp hx with hx | hx
          · exact hwlt x hx
          · rw [List.mem_singleton.mp hx]
            exact hr
        · exact ⟨false, rfl, iteF (sA.trans (sB.trans sC))⟩
      rintro σ HA ⟨v8, rfl, sA⟩
      exact ⟨_, _, _, rfl, s5.trans (s6.trans ((s7.trans s8).trans (s9.trans sA)))⟩
    rintro σ H5 ⟨v6, v7, v8, rfl, s5⟩
    walk_at "rd"
    refine begun s5 fun H6 d0 kvs0 s6 hd0 hM0 => ?_
    have s46 := s5.trans s6
    refine ⟨_, rfl, a, script, 5, rfl, Same.seq (s04.trans s46) hS, by decide, fun c5 _ _ _ => ?_⟩
    refine ⟨_, _, rfl, rfl, (by decide : (0 : Int) < 12), ?_⟩
    obtain ⟨M, hM1, hMl⟩ : ∃ M : Nat, c5 % 12 = (M : Int) ∧ M < 12 := ⟨(c5 % 12).toNat, by omega, by omega⟩
    show ∃ j : Int, [V.int (c5 % 12)] = [.int j] ∧ -(2 ^ 62) ≤ j ∧ j < 2 ^ 62 ∧ _
    refine ⟨_, rfl, by omega, by omega, ?_⟩
    rw [hM1, show ((M : Nat) : Int).toNat = M from rfl]
    refine for_range (lo := 0) (n := M) (fun i σ H' => ∃ (v8 v9 : Option V) (dk : Addr) (kvs : List (Str × V)) (way : List Nat), σ = [some (.ref a), some (.ref t), some (.ref p), some (.int (2 ^ l.ins.length : Nat)), some (.ref D), none, v6, some (.ref dk), v8, v9] ∧ Same H6 H' ∧ H' dk = some (.dK (dL id kvs)) ∧ MemD H' kvs (memOf (writ l.rs) (kRun l way)) ∧ ∀ r ∈ way, r < 2 ^ l.ins.length) ⟨v8, none, d0, kvs0, [], rfl, Same.refl _, hd0, hM0, by simp⟩ ?_ ?_
    · rintro i σ H7 hi ⟨v8, v9, dk, kvs, way, rfl, s7, hd, hMD, hway⟩
      walk_at "rd"
      rw [Int.zero_add]
      have s47 := s46.trans s7
      refine ⟨a, script, 6 + (i : Int) % 2, rfl, Same.seq (s04.trans s47) hS, by omega, fun c6 _ _ _ => ⟨c6, i, rfl, ?_⟩⟩
      generalize mixed c6 (i : Nat) = mx
      refine ⟨mx, rfl, by omega, ?_⟩
      obtain ⟨n, hn, hnl⟩ : ∃ n : Nat, mx % ((2 ^ l.ins.length : Nat) : Int) = (n : Int) ∧ n < 2 ^ l.ins.length := by
        have h1 := Int.emod_nonneg mx (show ((2 ^ l.ins.length : Nat) : Int) ≠ 0 by omega)
        have h2 := Int.emod_lt_of_pos mx (show (0 : Int) < ((2 ^ l.ins.length : Nat) : Int) by omega)
        exact ⟨(mx % ((2 ^ l.ins.length : Nat) : Int)).toNat, by omega, by omega⟩
      rw [hn]
      refine scanned s47 hd hMD fun H8 d2 kvs2 s8 hd2 hM2 => ?_
      have s48 := s47.trans s8
      have hM8 := hM4.keep s48
      have hway2 : ∀ r ∈ way ++ [n], r < 2 ^ l.ins.length := fun x hx => by
        rcases List.mem_append.mp hx with hx | hx
        · exact hway x hx
        · rw [List.mem_singleton.mp hx]
          exact hnl
      refine ⟨t, _, 2, .ref p0, rfl, rfl, SqT.of hM8.at_, atI_int (by decide) rfl, stated s48 hd2 hM2 fun H9 s9 => ?_⟩
      refine inside (s48.trans s9) hway2 ⟨false, rfl, iteF ⟨_, _, d2, ⟨rfl, rfl, rfl⟩, s7.trans (s8.trans s9), kvs2, s9 _ _ hd2, _, hM2.mono (T := fun _ => False) (Same.imm s9), hway2⟩⟩
    rintro σ H7 ⟨v8, v9, dk, kvs, way, rfl, s7, hd, hMD, hway⟩
    walk_at "rd"
    exact k _
end

--%% NT
end My
end
section
open PySem PySem.Spec L2 Ru
namespace My
def a_cs (K : PySem.W.Frag) : Cs := ⟨⟨(He.ga K "Fixed"), (He.ga K "Contact"), (He.ga K "Turned"), (He.ga K "Series"), (He.ga K "Branch")⟩, ⟨(He.ga K "Coil"), (He.ga K "Latch"), (He.ga K "Unlatch"), (He.ga K "Timer"), (He.ga K "Counter"), (He.ga K "End")⟩, (He.ga K "Rung"), (He.ga K "Ladder")⟩
def a_cc (K : PySem.W.Frag) : Addr := (He.ga K "Counting")
def a_xc (K : PySem.W.Frag) : Xc := ⟨(He.ga K "LadderError"), (He.ga K "NoName"), (He.ga K "NoPart"), (He.ga K "NoEnd"), (He.ga K "NoLadder"), 0, (He.ga K "NoRow"), 0, (He.ga K "NoState"), 0, (He.ga K "TooMany")⟩
def a_cw (K : PySem.W.Frag) : Addr := (He.ga K "Works")
theorem f_TNames {K : PySem.W.Frag} {h : Heap} {mg : Str → Option Value} (X : K.In h) (G : h.Ns mainGlobals mg) (c : Hd.Says Hh.facts Hh.defs K) : TNames K mg :=
  ⟨(Hd.def_of X G (c.at_ 1 rfl) (c.def_ 1 rfl) (fun _ _ _ _ _ _ us hl => match us, hl with | [_], _ => rfl)),
   (Hd.def_of X G (c.at_ 2 rfl) (c.def_ 2 rfl) (fun _ _ _ _ _ _ us hl => match us, hl with | [_], _ => rfl)),
   (Hd.con_of X G (c.at_ 3 rfl)),
   (Hd.con_of X G (c.at_ 4 rfl)),
   (Hd.tup_of X G (c.at_ 5 rfl)),
   (Hd.no_of X G (c.at_ 6 rfl))⟩
theorem f_TEnds {K : PySem.W.Frag} {h : Heap} {mg : Str → Option Value} (X : K.In h) (G : h.Ns mainGlobals mg) (c : Hd.Says Hh.facts Hh.defs K) : TEnds K mg (a_cs K).ce :=
  ⟨(f_TNames X G c),
   (Hd.cls_of X G (c.at_ 7 rfl)),
   (Hd.cls_of X G (c.at_ 8 rfl)),
   (Hd.cls_of X G (c.at_ 9 rfl)),
   (Hd.cls_of X G (c.at_ 10 rfl)),
   (Hd.cls_of X G (c.at_ 11 rfl)),
   (Hd.cls_of X G (c.at_ 12 rfl)),
   (Hd.na_of (c.at_ 13 rfl)),
   (Hd.na_of (c.at_ 14 rfl)),
   (Hd.na_of (c.at_ 15 rfl)),
   (Hd.na_of (c.at_ 16 rfl)),
   (Hd.na_of (c.at_ 17 rfl)),
   (Hd.na_of (c.at_ 18 rfl)),
   (Hd.na_of (c.at_ 19 rfl)),
   (Hd.met_of (c.at_ 20 rfl) (c.def_ 3 rfl) (fun _ _ _ _ _ _ us hl => match us, hl with | [_], _ => rfl)),
   (Hd.met_of (c.at_ 21 rfl) (c.def_ 4 rfl) (fun _ _ _ _ _ _ us hl => match us, hl with | [_], _ => rfl)),
   (Hd.met_of (c.at_ 22 rfl) (c.def_ 5 rfl) (fun _ _ _ _ _ _ us hl => match us, hl with | [_], _ => rfl)),
   (Hd.met_of (c.at_ 23 rfl) (c.def_ 6 rfl) (fun _ _ _ _ _ _ us hl => match us, hl with | [_], _ => rfl)),
   (Hd.met_of (c.at_ 24 rfl) (c.def_ 7 rfl) (fun _ _ _ _ _ _ us hl => match us, hl with | [_], _ => rfl)),
   (Hd.met_of (c.at_ 25 rfl) (c.def_ 8 rfl) (fun _ _ _ _ _ _ us hl => match us, hl with | [_], _ => rfl)),
   (Hd.met_of (c.at_ 26 rfl) (c.def_ 9 rfl) (fun _ _ _ _ _ _ us hl => match us, hl with | [_], _ => rfl)),
   (Hd.met_of (c.at_ 27 rfl) (c.def_ 10 rfl) (fun _ _ _ _ _ _ us hl => match us, hl with | [_], _ => rfl)),
   (Hd.met_of (c.at_ 28 rfl) (c.def_ 11 rfl) (fun _ _ _ _ _ _ us hl => match us, hl with | [_], _ => rfl)),
   (Hd.met_of (c.at_ 29 rfl) (c.def_ 12 rfl) (fun _ _ _ _ _ _ us hl => match us, hl with | [_], _ => rfl)),
   (Hd.met_of (c.at_ 30 rfl) (c.def_ 13 rfl) (fun _ _ _ _ _ _ us hl => match us, hl with | [_], _ => rfl)),
   (Hd.met_of (c.at_ 31 rfl) (c.def_ 14 rfl) (fun _ _ _ _ _ _ us hl => match us, hl with | [_], _ => rfl)),
   (Hd.met_of (c.at_ 32 rfl) (c.def_ 15 rfl) (fun _ _ _ _ _ _ us hl => match us, hl with | [_], _ => rfl)),
   (Hd.met_of (c.at_ 33 rfl) (c.def_ 16 rfl) (fun _ _ _ _ _ _ us hl => match us, hl with | [_], _ => rfl)),
   (Hd.met_of (c.at_ 34 rfl) (c.def_ 17 rfl) (fun _ _ _ _ _ _ us hl => match us, hl with | [_], _ => rfl)),
   (Hd.met_of (c.at_ 35 rfl) (c.def_ 18 rfl) (fun _ _ _ _ _ _ us hl => match us, hl with | [_, _], _ => rfl)),
   (Hd.met_of (c.at_ 36 rfl) (c.def_ 19 rfl) (fun _ _ _ _ _ _ us hl => match us, hl with | [_, _], _ => rfl)),
   (Hd.met_of (c.at_ 37 rfl) (c.def_ 20 rfl) (fun _ _ _ _ _ _ us hl => match us, hl with | [_, _], _ => rfl)),
   (Hd.met_of (c.at_ 38 rfl) (c.def_ 21 rfl) (fun _ _ _ _ _ _ us hl => match us, hl with | [_, _, _], _ => rfl)),
   (Hd.met_of (c.at_ 39 rfl) (c.def_ 22 rfl) (fun _ _ _ _ _ _ us hl => match us, hl with | [_, _, _], _ => rfl)),
   (Hd.cfn_of (c.at_ 40 rfl) (c.def_ 23 rfl) (fun _ _ _ _ _ _ us hl => match us, hl with | [_, _], _ => rfl)),
   (of_decide_eq_true (c.at_ 41 rfl)),
   (Hd.no_of X G (c.at_ 42 rfl)),
   (Hd.no_of X G (c.at_ 43 rfl)),
   (Hd.no_of X G (c.at_ 44 rfl)),
   (Hd.no_of X G (c.at_ 45 rfl)),
   (Hd.con_of X G (c.at_ 46 rfl))⟩
theorem f_TEnK {K : PySem.W.Frag} {h : Heap} {mg : Str → Option Value} (X : K.In h) (G : h.Ns mainGlobals mg) (c : Hd.Says Hh.facts Hh.defs K) : TEnK K mg (a_cs K).ce :=
  ⟨(f_TEnds X G c),
   (Hd.one_of (c.at_ 47 rfl)),
   (Hd.one_of (c.at_ 48 rfl)),
   (Hd.one_of (c.at_ 49 rfl)),
   (Hd.one_of (c.at_ 50 rfl)),
   (Hd.one_of (c.at_ 51 rfl)),
   (Hd.one_of (c.at_ 52 rfl)),
   (Hd.one_of (c.at_ 53 rfl)),
   (Hd.one_of (c.at_ 54 rfl)),
   (Hd.one_of (c.at_ 55 rfl)),
   (Hd.one_of (c.at_ 56 rfl)),
   (Hd.one_of (c.at_ 57 rfl)),
   (Hd.one_of (c.at_ 58 rfl)),
   (Hd.one_of (c.at_ 59 rfl)),
   (Hd.one_of (c.at_ 60 rfl)),
   (Hd.one_of (c.at_ 61 rfl)),
   (Hd.one_of (c.at_ 62 rfl)),
   (Hd.one_of (c.at_ 63 rfl)),
   (Hd.one_of (c.at_ 64 rfl)),
   (Hd.one_of (c.at_ 65 rfl)),
   (Hd.one_of (c.at_ 66 rfl)),
   (Hd.one_of (c.at_ 67 rfl)),
   (Hd.one_of (c.at_ 68 rfl)),
   (Hd.one_of (c.at_ 69 rfl)),
   (Hd.one_of (c.at_ 70 rfl)),
   (Hd.one_of (c.at_ 71 rfl)),
   (Hd.one_of (c.at_ 72 rfl)),
   (Hd.one_of (c.at_ 73 rfl)),
   (Hd.one_of (c.at_ 74 rfl)),
   (Hd.one_of (c.at_ 75 rfl)),
   (Hd.one_of (c.at_ 76 rfl))⟩
theorem f_TExs {K : PySem.W.Frag} {h : Heap} {mg : Str → Option Value} (X : K.In h) (G : h.Ns mainGlobals mg) (c : Hd.Says Hh.facts Hh.defs K) : TExs K mg (a_xc K) :=
  ⟨(Hd.err_of X G (c.at_ 77 rfl)),
   (Hd.exc_of X G (c.at_ 78 rfl)),
   (Hd.exc_of X G (c.at_ 79 rfl)),
   (Hd.exc_of X G (c.at_ 80 rfl)),
   (Hd.exc_of X G (c.at_ 81 rfl)),
   (Hd.exc_of X G (c.at_ 82 rfl)),
   (Hd.exc_of X G (c.at_ 83 rfl)),
   (Hd.exc_of X G (c.at_ 84 rfl)),
   (of_decide_eq_true (c.at_ 85 rfl))⟩
theorem f_TLad {K : PySem.W.Frag} {h : Heap} {mg : Str → Option Value} (X : K.In h) (G : h.Ns mainGlobals mg) (c : Hd.Says Hh.facts Hh.defs K) : TLad K mg (a_cs K) (a_cc K) (a_xc K) :=
  ⟨(f_TEnK X G c),
   (f_TExs X G c),
   (Hd.cls_of X G (c.at_ 86 rfl)),
   (Hd.cls_of X G (c.at_ 87 rfl)),
   (Hd.cls_of X G (c.at_ 88 rfl)),
   (Hd.one_of (c.at_ 89 rfl)),
   (Hd.one_of (c.at_ 90 rfl)),
   (Hd.one_of (c.at_ 91 rfl)),
   (Hd.one_of (c.at_ 92 rfl)),
   (Hd.one_of (c.at_ 93 rfl)),
   (Hd.na_of (c.at_ 94 rfl)),
   (Hd.na_of (c.at_ 95 rfl)),
   (Hd.na_of (c.at_ 96 rfl)),
   (Hd.na_of (c.at_ 97 rfl)),
   (Hd.na_of (c.at_ 98 rfl)),
   (Hd.def_of X G (c.at_ 99 rfl) (c.def_ 24 rfl) (fun _ _ _ _ _ _ us hl => match us, hl with | [_, _, _], _ => rfl)),
   (Hd.def_of X G (c.at_ 100 rfl) (c.def_ 25 rfl) (fun _ _ _ _ _ _ us hl => match us, hl with | [_], _ => rfl)),
   (Hd.def_of X G (c.at_ 101 rfl) (c.def_ 26 rfl) (fun _ _ _ _ _ _ us hl => match us, hl with | [_], _ => rfl)),
   (Hd.met_of (c.at_ 102 rfl) (c.def_ 27 rfl) (fun _ _ _ _ _ _ us hl => match us, hl with | [_, _, _], _ => rfl)),
   (Hd.met_of (c.at_ 103 rfl) (c.def_ 28 rfl) (fun _ _ _ _ _ _ us hl => match us, hl with | [_, _, _, _], _ => rfl)),
   (Hd.met_of (c.at_ 104 rfl) (c.def_ 29 rfl) (fun _ _ _ _ _ _ us hl => match us, hl with | [_], _ => rfl)),
   (Hd.no_of X G (c.at_ 6 rfl)),
   (Hd.no_of X G (c.at_ 105 rfl)),
   (Hd.no_of X G (c.at_ 106 rfl)),
   (Hd.no_of X G (c.at_ 107 rfl)),
   (Hd.no_of X G (c.at_ 42 rfl)),
   (Hd.con_of X G (c.at_ 108 rfl)),
   (Hd.con_of X G (c.at_ 109 rfl)),
   (Hd.con_of X G (c.at_ 110 rfl))⟩
theorem f_TWorks {K : PySem.W.Frag} {h : Heap} {mg : Str → Option Value} (X : K.In h) (G : h.Ns mainGlobals mg) (c : Hd.Says Hh.facts Hh.defs K) : TWorks K mg (a_cs K) (a_cc K) (a_xc K) (a_cw K) :=
  ⟨(f_TLad X G c),
   (Hd.cls_of X G (c.at_ 111 rfl)),
   (Hd.na_of (c.at_ 112 rfl)),
   (Hd.na_of (c.at_ 113 rfl)),
   (Hd.na_of (c.at_ 114 rfl)),
   (Hd.na_of (c.at_ 115 rfl)),
   (Hd.met_of (c.at_ 116 rfl) (c.def_ 30 rfl) (fun _ _ _ _ _ _ us hl => match us, hl with | [_, _], _ => rfl))⟩
theorem f_TKept {K : PySem.W.Frag} {h : Heap} {mg : Str → Option Value} (X : K.In h) (G : h.Ns mainGlobals mg) (c : Hd.Says Hh.facts Hh.defs K) : TKept K mg (a_cs K) (a_cc K) (a_xc K) (a_cw K) :=
  ⟨(f_TWorks X G c),
   (Hd.met_of (c.at_ 122 rfl) (c.def_ 36 rfl) (fun _ _ _ _ _ _ us hl => match us, hl with | [_], _ => rfl)),
   (Hd.met_of (c.at_ 123 rfl) (c.def_ 37 rfl) (fun _ _ _ _ _ _ us hl => match us, hl with | [_, _], _ => rfl)),
   (Hd.no_of X G (c.at_ 124 rfl))⟩
theorem f_TStates {K : PySem.W.Frag} {h : Heap} {mg : Str → Option Value} (X : K.In h) (G : h.Ns mainGlobals mg) (c : Hd.Says Hh.facts Hh.defs K) : TStates K mg (a_cs K) (a_cc K) (a_xc K) (a_cw K) :=
  ⟨(f_TWorks X G c),
   (Hd.def_of X G (c.at_ 117 rfl) (c.def_ 31 rfl) (fun _ _ _ _ _ _ us hl => match us, hl with | [_], _ => rfl)),
   (Hd.def_of X G (c.at_ 118 rfl) (c.def_ 32 rfl) (fun _ _ _ _ _ _ us hl => match us, hl with | [_, _], _ => rfl)),
   (Hd.def_of X G (c.at_ 119 rfl) (c.def_ 33 rfl) (fun _ _ _ _ _ _ us hl => match us, hl with | [_], _ => rfl)),
   (Hd.def_of X G (c.at_ 120 rfl) (c.def_ 34 rfl) (fun _ _ _ _ _ _ us hl => match us, hl with | [_], _ => rfl)),
   (Hd.def_of X G (c.at_ 121 rfl) (c.def_ 35 rfl) (fun _ _ _ _ _ _ us hl => match us, hl with | [_, _], _ => rfl)),
   (f_TExs X G c),
   (f_TKept X G c),
   (Hd.con_of X G (c.at_ 125 rfl)),
   (Hd.no_of X G (c.at_ 42 rfl)),
   (Hd.no_of X G (c.at_ 43 rfl)),
   (Hd.no_of X G (c.at_ 126 rfl))⟩
theorem f_TStateAt {K : PySem.W.Frag} {h : Heap} {mg : Str → Option Value} (X : K.In h) (G : h.Ns mainGlobals mg) (c : Hd.Says Hh.facts Hh.defs K) : TStateAt K mg (a_cs K) (a_cc K) (a_xc K) (a_cw K) :=
  ⟨(f_TStates X G c),
   (Hd.def_of X G (c.at_ 127 rfl) (c.def_ 38 rfl) (fun _ _ _ _ _ _ us hl => match us, hl with | [_, _], _ => rfl)),
   (Hd.con_of X G (c.at_ 125 rfl)),
   (Hd.no_of X G (c.at_ 42 rfl))⟩
theorem f_TParts {K : PySem.W.Frag} {h : Heap} {mg : Str → Option Value} (X : K.In h) (G : h.Ns mainGlobals mg) (c : Hd.Says Hh.facts Hh.defs K) : TParts K mg (a_cs K).cl :=
  ⟨(Hd.cls_of X G (c.at_ 128 rfl)),
   (Hd.cls_of X G (c.at_ 129 rfl)),
   (Hd.cls_of X G (c.at_ 130 rfl)),
   (Hd.cls_of X G (c.at_ 131 rfl)),
   (Hd.cls_of X G (c.at_ 132 rfl)),
   (of_decide_eq_true (c.at_ 133 rfl)),
   (Hd.na_of (c.at_ 134 rfl)),
   (Hd.na_of (c.at_ 135 rfl)),
   (Hd.na_of (c.at_ 136 rfl)),
   (Hd.na_of (c.at_ 137 rfl)),
   (Hd.na_of (c.at_ 138 rfl)),
   (Hd.met_of (c.at_ 139 rfl) (c.def_ 39 rfl) (fun _ _ _ _ _ _ us hl => match us, hl with | [_], _ => rfl)),
   (Hd.met_of (c.at_ 140 rfl) (c.def_ 40 rfl) (fun _ _ _ _ _ _ us hl => match us, hl with | [_], _ => rfl)),
   (Hd.met_of (c.at_ 141 rfl) (c.def_ 41 rfl) (fun _ _ _ _ _ _ us hl => match us, hl with | [_], _ => rfl)),
   (Hd.met_of (c.at_ 142 rfl) (c.def_ 42 rfl) (fun _ _ _ _ _ _ us hl => match us, hl with | [_], _ => rfl)),
   (Hd.met_of (c.at_ 143 rfl) (c.def_ 43 rfl) (fun _ _ _ _ _ _ us hl => match us, hl with | [_], _ => rfl)),
   (Hd.met_of (c.at_ 144 rfl) (c.def_ 44 rfl) (fun _ _ _ _ _ _ us hl => match us, hl with | [_], _ => rfl)),
   (Hd.met_of (c.at_ 145 rfl) (c.def_ 45 rfl) (fun _ _ _ _ _ _ us hl => match us, hl with | [_], _ => rfl)),
   (Hd.met_of (c.at_ 146 rfl) (c.def_ 46 rfl) (fun _ _ _ _ _ _ us hl => match us, hl with | [_], _ => rfl)),
   (Hd.met_of (c.at_ 147 rfl) (c.def_ 47 rfl) (fun _ _ _ _ _ _ us hl => match us, hl with | [_], _ => rfl)),
   (Hd.met_of (c.at_ 148 rfl) (c.def_ 48 rfl) (fun _ _ _ _ _ _ us hl => match us, hl with | [_], _ => rfl)),
   (Hd.met_of (c.at_ 149 rfl) (c.def_ 49 rfl) (fun _ _ _ _ _ _ us hl => match us, hl with | [_], _ => rfl)),
   (Hd.met_of (c.at_ 150 rfl) (c.def_ 50 rfl) (fun _ _ _ _ _ _ us hl => match us, hl with | [_], _ => rfl)),
   (Hd.met_of (c.at_ 151 rfl) (c.def_ 51 rfl) (fun _ _ _ _ _ _ us hl => match us, hl with | [_], _ => rfl)),
   (Hd.met_of (c.at_ 152 rfl) (c.def_ 52 rfl) (fun _ _ _ _ _ _ us hl => match us, hl with | [_], _ => rfl)),
   (Hd.met_of (c.at_ 153 rfl) (c.def_ 53 rfl) (fun _ _ _ _ _ _ us hl => match us, hl with | [_], _ => rfl)),
   (Hd.met_of (c.at_ 154 rfl) (c.def_ 54 rfl) (fun _ _ _ _ _ _ us hl => match us, hl with | [_], _ => rfl)),
   (Hd.met_of (c.at_ 155 rfl) (c.def_ 55 rfl) (fun _ _ _ _ _ _ us hl => match us, hl with | [_], _ => rfl)),
   (Hd.met_of (c.at_ 156 rfl) (c.def_ 56 rfl) (fun _ _ _ _ _ _ us hl => match us, hl with | [_], _ => rfl)),
   (Hd.no_of X G (c.at_ 126 rfl)),
   (Hd.no_of X G (c.at_ 157 rfl)),
   (Hd.no_of X G (c.at_ 106 rfl)),
   (Hd.con_of X G (c.at_ 158 rfl)),
   (Hd.con_of X G (c.at_ 159 rfl))⟩
theorem f_THolds {K : PySem.W.Frag} {h : Heap} {mg : Str → Option Value} (X : K.In h) (G : h.Ns mainGlobals mg) (c : Hd.Says Hh.facts Hh.defs K) : THolds K mg (a_cs K).cl :=
  ⟨(f_TParts X G c),
   (Hd.met_of (c.at_ 160 rfl) (c.def_ 57 rfl) (fun _ _ _ _ _ _ us hl => match us, hl with | [_, _], _ => rfl)),
   (Hd.met_of (c.at_ 161 rfl) (c.def_ 58 rfl) (fun _ _ _ _ _ _ us hl => match us, hl with | [_, _], _ => rfl)),
   (Hd.met_of (c.at_ 162 rfl) (c.def_ 59 rfl) (fun _ _ _ _ _ _ us hl => match us, hl with | [_, _], _ => rfl)),
   (Hd.met_of (c.at_ 163 rfl) (c.def_ 60 rfl) (fun _ _ _ _ _ _ us hl => match us, hl with | [_, _], _ => rfl)),
   (Hd.met_of (c.at_ 164 rfl) (c.def_ 61 rfl) (fun _ _ _ _ _ _ us hl => match us, hl with | [_, _], _ => rfl)),
   (Hd.no_of X G (c.at_ 165 rfl)),
   (Hd.no_of X G (c.at_ 107 rfl))⟩
theorem f_TScan {K : PySem.W.Frag} {h : Heap} {mg : Str → Option Value} (X : K.In h) (G : h.Ns mainGlobals mg) (c : Hd.Says Hh.facts Hh.defs K) : TScan K mg (a_cs K) (a_cc K) (a_xc K) (a_cw K) :=
  ⟨(f_TWorks X G c),
   (f_THolds X G c),
   (Hd.def_of X G (c.at_ 166 rfl) (c.def_ 62 rfl) (fun _ _ _ _ _ _ us hl => match us, hl with | [_, _], _ => rfl)),
   (Hd.met_of (c.at_ 167 rfl) (c.def_ 63 rfl) (fun _ _ _ _ _ _ us hl => match us, hl with | [_, _, _], _ => rfl)),
   (Hd.met_of (c.at_ 168 rfl) (c.def_ 64 rfl) (fun _ _ _ _ _ _ us hl => match us, hl with | [_, _, _], _ => rfl)),
   (Hd.met_of (c.at_ 169 rfl) (c.def_ 65 rfl) (fun _ _ _ _ _ _ us hl => match us, hl with | [_, _], _ => rfl)),
   (Hd.no_of X G (c.at_ 6 rfl)),
   (Hd.no_of X G (c.at_ 170 rfl)),
   (Hd.no_of X G (c.at_ 171 rfl)),
   (Hd.no_of X G (c.at_ 44 rfl)),
   (Hd.no_of X G (c.at_ 106 rfl))⟩
theorem f_TSteps {K : PySem.W.Frag} {h : Heap} {mg : Str → Option Value} (X : K.In h) (G : h.Ns mainGlobals mg) (c : Hd.Says Hh.facts Hh.defs K) : TSteps K mg (a_cs K) (a_cc K) (a_xc K) :=
  ⟨(f_TLad X G c),
   (Hd.def_of X G (c.at_ 172 rfl) (c.def_ 66 rfl) (fun _ _ _ _ _ _ us hl => match us, hl with | [_], _ => rfl)),
   (Hd.def_of X G (c.at_ 173 rfl) (c.def_ 67 rfl) (fun _ _ _ _ _ _ us hl => match us, hl with | [_, _], _ => rfl)),
   (Hd.def_of X G (c.at_ 174 rfl) (c.def_ 68 rfl) (fun _ _ _ _ _ _ us hl => match us, hl with | [_], _ => rfl)),
   (Hd.no_of X G (c.at_ 6 rfl)),
   (Hd.no_of X G (c.at_ 175 rfl)),
   (Hd.no_of X G (c.at_ 106 rfl)),
   (Hd.no_of X G (c.at_ 43 rfl)),
   (Hd.no_of X G (c.at_ 176 rfl))⟩
theorem f_TAsk2 {K : PySem.W.Frag} {h : Heap} {mg : Str → Option Value} (X : K.In h) (G : h.Ns mainGlobals mg) (c : Hd.Says Hh.facts Hh.defs K) : TAsk2 K mg (a_cs K) (a_cc K) (a_xc K) (a_cw K) :=
  ⟨(f_TWorks X G c),
   (Hd.met_of (c.at_ 177 rfl) (c.def_ 69 rfl) (fun _ _ _ _ _ _ us hl => match us, hl with | [_], _ => rfl)),
   (Hd.met_of (c.at_ 178 rfl) (c.def_ 70 rfl) (fun _ _ _ _ _ _ us hl => match us, hl with | [_], _ => rfl)),
   (Hd.no_of X G (c.at_ 124 rfl)),
   (Hd.no_of X G (c.at_ 106 rfl))⟩
theorem f_TStep {K : PySem.W.Frag} {h : Heap} {mg : Str → Option Value} (X : K.In h) (G : h.Ns mainGlobals mg) (c : Hd.Says Hh.facts Hh.defs K) : TStep K mg (a_cs K) (a_cc K) (a_xc K) (a_cw K) :=
  ⟨(f_TStateAt X G c),
   (f_TScan X G c),
   (f_TSteps X G c),
   (f_TAsk2 X G c),
   (Hd.def_of X G (c.at_ 179 rfl) (c.def_ 71 rfl) (fun _ _ _ _ _ _ us hl => match us, hl with | [_, _, _], _ => rfl))⟩
theorem f_TReach {K : PySem.W.Frag} {h : Heap} {mg : Str → Option Value} (X : K.In h) (G : h.Ns mainGlobals mg) (c : Hd.Says Hh.facts Hh.defs K) : TReach K mg (a_cs K) (a_cc K) (a_xc K) (a_cw K) :=
  ⟨(f_TStep X G c),
   (Hd.defD_of X G (c.at_ 180 rfl) (c.def_ 72 rfl) (by decide) (fun _ _ _ _ _ _ _ us its a b => match us, its, a, b with | [_, _], [_], _, _ => ⟨_, rfl, rfl⟩) (fun _ _ _ _ _ _ _ us its a b => match us, its, a, b with | [_], [_], _, _ => ⟨_, rfl, rfl⟩) (fun _ _ _ _ _ _ _ us its ws a b c => match us, its, ws, a, b, c with | [_], [_], [_], _, _, _ => ⟨_, rfl, rfl⟩)),
   (Hd.def_of X G (c.at_ 181 rfl) (c.def_ 73 rfl) (fun _ _ _ _ _ _ us hl => match us, hl with | [_, _], _ => rfl)),
   (Hd.no_of X G (c.at_ 6 rfl)),
   (Hd.no_of X G (c.at_ 175 rfl))⟩
theorem f_TMake {K : PySem.W.Frag} {h : Heap} {mg : Str → Option Value} (X : K.In h) (G : h.Ns mainGlobals mg) (c : Hd.Says Hh.facts Hh.defs K) : TMake K mg (a_cs K).cl :=
  ⟨(f_TNames X G c),
   (f_TParts X G c),
   (Hd.met_of (c.at_ 182 rfl) (c.def_ 74 rfl) (fun _ _ _ _ _ _ us hl => match us, hl with | [_, _], _ => rfl)),
   (Hd.met_of (c.at_ 183 rfl) (c.def_ 75 rfl) (fun _ _ _ _ _ _ us hl => match us, hl with | [_, _], _ => rfl)),
   (Hd.met_of (c.at_ 184 rfl) (c.def_ 76 rfl) (fun _ _ _ _ _ _ us hl => match us, hl with | [_, _], _ => rfl)),
   (Hd.met_of (c.at_ 185 rfl) (c.def_ 77 rfl) (fun _ _ _ _ _ _ us hl => match us, hl with | [_, _], _ => rfl)),
   (Hd.met_of (c.at_ 186 rfl) (c.def_ 78 rfl) (fun _ _ _ _ _ _ us hl => match us, hl with | [_, _], _ => rfl)),
   (Hd.no_of X G (c.at_ 6 rfl)),
   (Hd.no_of X G (c.at_ 106 rfl))⟩
theorem f_TPartOf {K : PySem.W.Frag} {h : Heap} {mg : Str → Option Value} (X : K.In h) (G : h.Ns mainGlobals mg) (c : Hd.Says Hh.facts Hh.defs K) : TPartOf K mg (a_cs K).cl :=
  ⟨(f_TMake X G c),
   (Hd.def_of X G (c.at_ 187 rfl) (c.def_ 79 rfl) (fun _ _ _ _ _ _ us hl => match us, hl with | [_], _ => rfl)),
   (Hd.def_of X G (c.at_ 188 rfl) (c.def_ 80 rfl) (fun _ _ _ _ _ _ us hl => match us, hl with | [_, _], _ => rfl)),
   (Hd.def_of X G (c.at_ 189 rfl) (c.def_ 81 rfl) (fun _ _ _ _ _ _ us hl => match us, hl with | [_], _ => rfl)),
   (Hd.no_of X G (c.at_ 6 rfl))⟩
theorem f_TLMade {K : PySem.W.Frag} {h : Heap} {mg : Str → Option Value} (X : K.In h) (G : h.Ns mainGlobals mg) (c : Hd.Says Hh.facts Hh.defs K) : TLMade K mg (a_cs K) (a_cc K) (a_xc K) :=
  ⟨(f_TLad X G c),
   (f_TPartOf X G c),
   (Hd.def_of X G (c.at_ 190 rfl) (c.def_ 82 rfl) (fun _ _ _ _ _ _ us hl => match us, hl with | [_], _ => rfl)),
   (Hd.def_of X G (c.at_ 191 rfl) (c.def_ 83 rfl) (fun _ _ _ _ _ _ us hl => match us, hl with | [_], _ => rfl))⟩
theorem f_TLEnds {K : PySem.W.Frag} {h : Heap} {mg : Str → Option Value} (X : K.In h) (G : h.Ns mainGlobals mg) (c : Hd.Says Hh.facts Hh.defs K) : TLEnds K mg :=
  ⟨(Hd.def_of X G (c.at_ 192 rfl) (c.def_ 84 rfl) (fun _ _ _ _ _ _ us hl => match us, hl with | [_], _ => rfl)),
   (Hd.no_of X G (c.at_ 43 rfl))⟩
theorem f_TLH {K : PySem.W.Frag} {h : Heap} {mg : Str → Option Value} (X : K.In h) (G : h.Ns mainGlobals mg) (c : Hd.Says Hh.facts Hh.defs K) : TLH K mg :=
  ⟨(Hd.def_of X G (c.at_ 193 rfl) (c.def_ 85 rfl) (fun _ _ _ _ _ _ us hl => match us, hl with | [_, _], _ => rfl)),
   (Hd.no_of X G (c.at_ 107 rfl)),
   (Hd.no_of X G (c.at_ 165 rfl)),
   (Hd.no_of X G (c.at_ 43 rfl))⟩
theorem f_TLScan {K : PySem.W.Frag} {h : Heap} {mg : Str → Option Value} (X : K.In h) (G : h.Ns mainGlobals mg) (c : Hd.Says Hh.facts Hh.defs K) : TLScan K mg :=
  ⟨(f_TLEnds X G c),
   (f_TLH X G c),
   (Hd.def_of X G (c.at_ 194 rfl) (c.def_ 86 rfl) (fun _ _ _ _ _ _ us hl => match us, hl with | [_], _ => rfl)),
   (Hd.def_of X G (c.at_ 195 rfl) (c.def_ 87 rfl) (fun _ _ _ _ _ _ us hl => match us, hl with | [_, _, _], _ => rfl)),
   (Hd.def_of X G (c.at_ 196 rfl) (c.def_ 88 rfl) (fun _ _ _ _ _ _ us hl => match us, hl with | [_, _, _], _ => rfl)),
   (Hd.no_of X G (c.at_ 6 rfl)),
   (Hd.no_of X G (c.at_ 175 rfl)),
   (Hd.no_of X G (c.at_ 43 rfl)),
   (Hd.no_of X G (c.at_ 170 rfl)),
   (Hd.no_of X G (c.at_ 124 rfl))⟩
theorem f_TLState {K : PySem.W.Frag} {h : Heap} {mg : Str → Option Value} (X : K.In h) (G : h.Ns mainGlobals mg) (c : Hd.Says Hh.facts Hh.defs K) : TLState K mg :=
  ⟨(f_TLEnds X G c),
   (Hd.def_of X G (c.at_ 197 rfl) (c.def_ 89 rfl) (fun _ _ _ _ _ _ us hl => match us, hl with | [_, _], _ => rfl)),
   (Hd.no_of X G (c.at_ 6 rfl)),
   (Hd.no_of X G (c.at_ 43 rfl))⟩
theorem f_TOwn {K : PySem.W.Frag} {h : Heap} {mg : Str → Option Value} (X : K.In h) (G : h.Ns mainGlobals mg) (c : Hd.Says Hh.facts Hh.defs K) : TOwn K mg (a_cs K) (a_cc K) (a_xc K) (a_cw K) :=
  ⟨(f_TReach X G c),
   (f_TLMade X G c),
   (f_TLScan X G c),
   (f_TLState X G c),
   (Hd.def_of X G (c.at_ 198 rfl) (c.def_ 90 rfl) (fun _ _ _ _ _ _ us hl => match us, hl with | [_], _ => rfl)),
   (Hd.def_of X G (c.at_ 199 rfl) (c.def_ 91 rfl) (fun _ _ _ _ _ _ us hl => match us, hl with | [_, _], _ => rfl)),
   (Hd.no_of X G (c.at_ 6 rfl)),
   (Hd.no_of X G (c.at_ 175 rfl)),
   (Hd.no_of X G (c.at_ 43 rfl)),
   (Hd.no_of X G (c.at_ 171 rfl))⟩
theorem f_TCells {K : PySem.W.Frag} {h : Heap} {mg : Str → Option Value} (X : K.In h) (G : h.Ns mainGlobals mg) (c : Hd.Says Hh.facts Hh.defs K) : TCells K mg :=
  ⟨(Hd.def_of X G (c.at_ 200 rfl) (c.def_ 92 rfl) (fun _ _ _ _ _ _ us hl => match us, hl with | [_, _], _ => rfl)),
   (Hd.def_of X G (c.at_ 201 rfl) (c.def_ 93 rfl) (fun _ _ _ _ _ _ us hl => match us, hl with | [_, _], _ => rfl)),
   (Hd.no_of X G (c.at_ 6 rfl))⟩
theorem f_TTree {K : PySem.W.Frag} {h : Heap} {mg : Str → Option Value} (X : K.In h) (G : h.Ns mainGlobals mg) (c : Hd.Says Hh.facts Hh.defs K) : TTree K mg :=
  ⟨(f_TCells X G c),
   (Hd.def_of X G (c.at_ 202 rfl) (c.def_ 94 rfl) (fun _ _ _ _ _ _ us hl => match us, hl with | [_, _, _], _ => rfl)),
   (Hd.no_of X G (c.at_ 6 rfl)),
   (Hd.no_of X G (c.at_ 170 rfl)),
   (Hd.no_of X G (c.at_ 157 rfl)),
   (Hd.no_of X G (c.at_ 175 rfl)),
   (Hd.no_of X G (c.at_ 106 rfl))⟩
theorem f_TNames2 {K : PySem.W.Frag} {h : Heap} {mg : Str → Option Value} (X : K.In h) (G : h.Ns mainGlobals mg) (c : Hd.Says Hh.facts Hh.defs K) : TNames2 K mg :=
  ⟨(f_TCells X G c),
   (Hd.def_of X G (c.at_ 203 rfl) (c.def_ 95 rfl) (fun _ _ _ _ _ _ us hl => match us, hl with | [_, _], _ => rfl)),
   (Hd.no_of X G (c.at_ 175 rfl)),
   (Hd.no_of X G (c.at_ 43 rfl))⟩
theorem f_TSmall {K : PySem.W.Frag} {h : Heap} {mg : Str → Option Value} (X : K.In h) (G : h.Ns mainGlobals mg) (c : Hd.Says Hh.facts Hh.defs K) : TSmall K mg :=
  ⟨(f_TTree X G c),
   (f_TNames2 X G c),
   (Hd.def_of X G (c.at_ 204 rfl) (c.def_ 96 rfl) (fun _ _ _ _ _ _ us hl => match us, hl with | [_, _, _], _ => rfl)),
   (Hd.no_of X G (c.at_ 6 rfl)),
   (Hd.no_of X G (c.at_ 175 rfl)),
   (Hd.no_of X G (c.at_ 43 rfl)),
   (Hd.no_of X G (c.at_ 106 rfl))⟩
theorem f_Txt {K : PySem.W.Frag} {h : Heap} {mg : Str → Option Value} (X : K.In h) (G : h.Ns mainGlobals mg) (c : Hd.Says Hh.facts Hh.defs K) : Txt K mg (a_cs K) (a_cc K) (a_xc K) (a_cw K) :=
  ⟨(Hd.law_of X G (c.at_ 0 rfl) (c.def_ 0 rfl) (fun _ _ _ _ _ _ _ => rfl)),
   (f_TOwn X G c),
   (f_TSmall X G c),
   (Hd.no_of X G (c.at_ 6 rfl)),
   (Hd.no_of X G (c.at_ 175 rfl))⟩
theorem law_fin {P : Program} {w : World} {K : PySem.W.Frag} {mg : Str → Option Value} {h : Heap} {fa : Addr} (X : K.In h) (G : h.Ns mainGlobals mg) (hfa : mg "law" = some (.ref fa)) (c : Hd.Says Hh.facts Hh.defs K) :
    ∃ fd : FuncData, (∀ (s : Shared) (u : Value), BindsTo s fd ⟨[u], []⟩ [("_law_script", u)]) ∧ ∀ base : Heap, K.In base → base.Ns mainGlobals mg → FnOk P w K mg base CX0 50 fa fd ["_law_script"] (spLaw K) :=
  law_end (f_Txt X G c).law hfa fun base f fd F => ok_law (f_Txt X G c) F
end My
end
open PySem PySem.W PySem.Calls PyProof.Rows
set_option maxRecDepth 100000 in
set_option maxHeartbeats 0 in
theorem PySem.Challenge.cw_rungworks_k55_whole_states_told_holds : PySem.Challenge.rw_rungworks_k55_whole_states_told.Holds := by
  w_on; o_law
  refine HandSHeadRun.head_any (r := OpenLaw.row PySem.Challenge.rw_rungworks_k55_whole_states_told) (q := view (OpenLaw.row PySem.Challenge.rw_rungworks_k55_whole_states_told).prog [83]) (H := Hh.hk) (ob := Hh.ob) (M := 20000) (loose := Hh.names) (d := HandSHeadRun.topDef (OpenLaw.row PySem.Challenge.rw_rungworks_k55_whole_states_told).prog 83) (kwd := []) Hh.ob_eq
    (by kernel_rfl) (fun s => by kernel_rfl) Hh.run (by kernel_rfl) (by kernel_rfl) (by kernel_rfl) (by rfl) (by first | assumption | decide +kernel) (by decide +kernel) ⟨rfl, rfl, rfl, rfl, rfl, by decide +kernel⟩ ?hw ?hc
  case hw => w_witness2
  case hc =>
    exact Hd.walk (l := PySem.Challenge.rw_rungworks_k55_whole_states_told) (n := Hh.addrs) (k := 50) (p := "_law_script") (B := Hh.facts) (fn := Hh.defs) ⟨rfl, by decide, by decide⟩ rfl (by kernel_rfl) (by kernel_rfl) fun w mg fa h K X G hmg c => My.law_fin X G hmg c
#print axioms PySem.Challenge.cw_rungworks_k55_whole_states_told_holds

