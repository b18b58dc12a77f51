import PyProof.Rows.All
import Wide.All
import OpenK.AllK
import Wide.FinOn
import HandS.Defaults
import HandS.Head0
import HandS.Head1
import HandS.Head2
import HandS.HeadEnd
import HandS.HeadHook1
import HandS.HeadHook2
import HandS.HeadNt
import HandS.ForMost
import HandS.Codes
import HandS.Style
import HandS.IsInst
import KE.KDictSum
import HandS.Conv
import HandS.ExcOwn
import HandS.ExcIs
import HandS.HotCalls
import HandS.Strs
import HandS.Zip
import HandS.Rev
import HandS.TryOnly
import PyProof.EnumMake
import PyProof.Draws
import KE.GoesMore
import KE.BitLaws
import HandS.Text
import HandS.Iter
import HandS.Walk
import HandS.ListItems
import HandS.Flow
import HandS.TupMul
import HandS.SetKeys
import HandS.TupAny
import HandS.DictComp
import HandS.Finally
import HandS.Deep
import HandS.More
import PySem.Challenge.RW_rungworks_k42_always
set_option Elab.async false
set_option linter.all false
set_option maxRecDepth 100000
set_option maxHeartbeats 2000000
/-! The head by one kernel run: every fact a law leans on is one Bool of the part of the heap that the module's names reach. -/
namespace Hd
open PySem PySem.Spec PyProof.Rows L2
/-! ## what is looked at -/
def tells (K : PySem.W.Frag) : List He5.DefA → List He5.FnW
  | [] => []
  | d :: r => He5.fnA K (d.at_ K) :: tells K r
def vals : List He5.DefA → List He5.FnW
  | [] => []
  | d :: r => d.val :: vals r
theorem tells_eq (K : PySem.W.Frag) : ∀ l, tells K l = l.map fun d => He5.fnA K (d.at_ K)
  | [] => rfl
  | d :: r => congrArg (He5.fnA K (d.at_ K) :: ·) (tells_eq K r)
theorem vals_eq : ∀ l, vals l = l.map He5.DefA.val
  | [] => rfl
  | d :: r => congrArg (d.val :: ·) (vals_eq r)
/-- not by List.map: of two maps over one list the kernel compares the functions first, over all of the heap -/
def seen (B : PySem.W.Frag → List Bool) (fn : List He5.DefA) (K : PySem.W.Frag) : He.AlD := ((B K).all (fun b => b) && fn.all fun d => d.ok K, tells K fn)
def want (fn : List He5.DefA) : He.AlD := (true, vals fn)
def Says (B : PySem.W.Frag → List Bool) (fn : List He5.DefA) (K : PySem.W.Frag) : Prop := seen B fn K = want fn
/-- n: the addresses that are looked at -/
def seenG (n : List Addr) (B : PySem.W.Frag → List Bool) (fn : List He5.DefA) (g : Addr → Option Obj) : He.AlD := seen B fn (He.frG g n)
def hook (n : List Addr) (B : PySem.W.Frag → List Bool) (fn : List He5.DefA) : PySem.W.Hook where
  α := He.AlD
  obs := fun s => seenG n B fn s.heap.get?
  val := fun _ => want fn
  says := fun _ h => ∃ K : PySem.W.Frag, K.In h ∧ Says B fn K
  of := fun _ _ e => ⟨_, He.frG_in, e⟩
  keeps := fun _ _ _ ⟨K, i, c⟩ k => ⟨K, PySem.W.Frag.In.keeps i k, c⟩
theorem seenG_eq {n : List Addr} {B : PySem.W.Frag → List Bool} {fn : List He5.DefA} {g : Addr → Option Obj} {s : Shared} (h : ∀ a, g a = s.heap.get? a) : seenG n B fn g = (hook n B fn).obs s := by
  obtain rfl : g = s.heap.get? := funext h
  rfl
section
variable {B : PySem.W.Frag → List Bool} {fn : List He5.DefA} {K : PySem.W.Frag}
theorem Says.at_ (c : Says B fn K) (i : Nat) {b : Bool} (h : (B K)[i]? = some b) : b = true :=
  List.all_eq_true.mp (Bool.and_eq_true_iff.mp (congrArg Prod.fst c)).1 b (List.mem_of_getElem? h)
theorem Says.def_ (c : Says B fn K) (i : Nat) {d : He5.DefA} (h : fn[i]? = some d) : ∃ fd, FunD K d.name d.qual d.params d.body d.scope (d.dvs K) (d.kws K) (d.at_ K) fd := by
  have e : (tells K fn)[i]? = (vals fn)[i]? := congrArg (fun l => l[i]?) (congrArg Prod.snd c)
  rw [tells_eq, vals_eq] at e
  rw [List.getElem?_map, List.getElem?_map, h] at e
  exact He5.DefA.funD (Option.some.inj e) (List.all_eq_true.mp (Bool.and_eq_true_iff.mp (congrArg Prod.fst c)).2 d (List.mem_of_getElem? h))
end
/-! ## facts as Bools -/
section
variable (K : PySem.W.Frag)
/-- the module's x is the object at a -/
def gB (x : Str) (a : Addr) : Bool := He.eqO (PySem.W.nsIn K mainGlobals x) (some (some (.ref a)))
def noB (x : Str) : Bool := He.eqO (PySem.W.nsIn K mainGlobals x) (some none)
def conB (x : Str) (v : V) : Bool := match PySem.W.nsIn K mainGlobals x with
  | some (some u) => He.relB v u
  | _ => false
def tupB (x : Str) (vs : List V) : Bool := match PySem.W.nsIn K mainGlobals x with
  | some (some (.ref a)) => (match K.lookup a with
    | some ⟨.type c, _, .seq its _, _⟩ => decide (c = "tuple") && (decide (its.size ≤ sizeLine) && He.relAll vs its.toList)
    | _ => false)
  | _ => false
def clsB (x : Str) (C : Addr) : Bool := gB K x C && (PySem.W.plainGet K C Str.empty && (PySem.W.hasDictIn K C && (PySem.W.plainOver K C && (He.eqO (PySem.W.findIn K (.ref C) "__setattr__") (some (some (.builtin "object.__setattr__"))) &&
  (He.eqO (PySem.W.findIn K (.ref C) "__class__") (some (some (.builtin "object.__class__"))) && (He.eqO (PySem.W.specialIn K (.builtin "object.__class__") "__get__") (some (some (.builtin "getset_descriptor.__get__"))) &&
  (decide (PySem.W.takesIn K (.builtin "object.__class__") = some true) && (decide (PySem.W.mroIn K C (.type "object") = some true) && (PySem.W.makesIn K C && PySem.W.keepIn K (.ref C))))))))))
def errB (x : Str) (C : Addr) : Bool := gB K x C && (decide (PySem.W.subIn K (.ref C) (.type "BaseException") = some true) && (decide (PySem.W.typeIn K (.ref C) = some (.type "type")) && PySem.W.hasDictIn K C))
def mroB (C L : Addr) : Bool := match PySem.W.clsIn K C with
  | some cd => decide (cd.mro = [.ref C, .ref L, .type "ValueError", .type "Exception", .type "BaseException", .type "object"])
  | none => false
def excB (x : Str) (C L : Addr) : Bool := gB K x C && (PySem.W.excIn K C [.type "ValueError", .type "Exception", .type "BaseException", .type "object"] "ValueError.__new__" && (PySem.W.keepIn K (.ref C) &&
  (He.eqO (PySem.W.findIn K (.ref C) "__getattribute__") (some (some (.builtin "BaseException.__getattribute__"))) && (He.eqO (PySem.W.findIn K (.ref C) "__getattr__") (some none) && (decide (PySem.W.subIn K (.ref C) (.type "BaseException") = some true) &&
  (PySem.W.hasDictIn K C && (He.eqO (PySem.W.findIn K (.ref C) "__class__") (some (some (.builtin "object.__class__"))) && (He.eqO (PySem.W.specialIn K (.builtin "object.__class__") "__get__") (some (some (.builtin "getset_descriptor.__get__"))) &&
  (decide (PySem.W.takesIn K (.builtin "object.__class__") = some true) && (decide (PySem.W.mroIn K C (.type "object") = some true) && (decide (PySem.W.typeIn K (.ref C) = some (.type "type")) && mroB K C L)))))))))))
def naB (C : Addr) (x : Str) : Bool := He.eqO (PySem.W.findIn K (.ref C) x) (some none)
def oneB (a b : Addr) (r : Bool) : Bool := decide (PySem.W.kitOne K (.ref a) (.ref b) = some r)
def metB (C : Addr) (m : Str) : Bool := He.eqO (PySem.W.findIn K (.ref C) m) (some (some (.ref (He.ma K C m)))) && (PySem.W.isFn K (.ref (He.ma K C m)) && PySem.W.keepIn K (.ref (He.ma K C m)))
def ca (C : Addr) (m : Str) : Addr := match PySem.W.findCls K (.ref C) (.type "type") m with
  | some (.val (.ref f)) => f
  | _ => 0
def cfnB (C : Addr) (m : Str) : Bool := PySem.W.readsIn K C (.type "type") && (He.eqO (PySem.W.specialIn K (.ref C) "__getattribute__") (some (some (.builtin "type.__getattribute__"))) && (match PySem.W.findCls K (.ref C) (.type "type") m with
  | some (.val (.ref _)) => true
  | _ => false))
end
theorem two {a b : Bool} (h : (a && b) = true) : a = true ∧ b = true := Bool.and_eq_true_iff.mp h
/-! ## defs -/
/-- a def as the text has it -/
def dA (at_ : PySem.W.Frag → Addr) (name qual : Str) (st : Stmt) : He5.DefA := ⟨at_, name, qual, defArgs st, defBody st, defScope st, [], []⟩
/-! ## the run in parts -/
noncomputable def endOf (r : PySem.W.OpenRow) (M : Nat) (w : World) (os : OsState) : Option PySem.W.SharedT := HandSHeadRun.endF (HandSHeadRun.stepQ (HandSHeadRun.denQ HandSHeadRun.tabQ) r.prog w) M r.prog w os
/-- some of the facts hold behind the top -/
def Part (r : PySem.W.OpenRow) (M : Nat) (n : List Addr) (B : PySem.W.Frag → List Bool) (fn : List He5.DefA) (w : World) : Prop := ∀ os : OsState, (endOf r M w os).map (fun s => seenG n B fn (HandSHeadRun.getT s)) = some (want fn)
theorem seen_app {B1 B2 : PySem.W.Frag → List Bool} {f1 f2 : List He5.DefA} {K : PySem.W.Frag} (h1 : seen B1 f1 K = want f1) (h2 : seen B2 f2 K = want f2) : seen (fun K => B1 K ++ B2 K) (f1 ++ f2) K = want (f1 ++ f2) := by
  obtain ⟨a1, b1⟩ := Prod.mk.inj h1
  obtain ⟨a2, b2⟩ := Prod.mk.inj h2
  obtain ⟨c1, d1⟩ := two a1
  obtain ⟨c2, d2⟩ := two a2
  refine Prod.ext ?_ ?_
  · show ((B1 K ++ B2 K).all (fun b => b) && (f1 ++ f2).all fun d => d.ok K) = true
    rw [List.all_append, List.all_append, c1, c2, d1, d2]
    rfl
  · show tells K (f1 ++ f2) = vals (f1 ++ f2)
    rw [tells_eq, vals_eq] at b1 b2 ⊢
    rw [List.map_append, List.map_append, b1, b2]
theorem Part.app {r : PySem.W.OpenRow} {M : Nat} {n : List Addr} {B1 B2 : PySem.W.Frag → List Bool} {f1 f2 : List He5.DefA} {w : World} (h1 : Part r M n B1 f1 w) (h2 : Part r M n B2 f2 w) : Part r M n (fun K => B1 K ++ B2 K) (f1 ++ f2) w := fun os => by
  have a := h1 os
  have b := h2 os
  cases e : endOf r M w os with
  | none =>
    rw [e] at a
    cases a
  | some s =>
    rw [e] at a b
    exact congrArg some (seen_app (Option.some.inj a) (Option.some.inj b))
theorem run_of {r : PySem.W.OpenRow} {q : Program} {M : Nat} {n : List Addr} {B : PySem.W.Frag → List Bool} {fn : List He5.DefA} {loose : List Str} {w : World} (h0 : HandSHeadRun.RunEq r q PySem.W.Hook.none (fun _ => ()) M loose w) (h1 : Part r M n B fn w) :
    HandSHeadRun.RunEq r q (hook n B fn) (fun s => seenG n B fn (HandSHeadRun.getT s)) M loose w := fun os => by
  have a := h0 os
  have b := h1 os
  unfold endOf at b
  cases e : HandSHeadRun.endF (HandSHeadRun.stepQ (HandSHeadRun.denQ HandSHeadRun.tabQ) r.prog w) M r.prog w os with
  | none =>
    rw [e] at a
    cases a
  | some s =>
    rw [e] at a b
    have a1 := Option.some.inj a
    have b1 := Option.some.inj b
    obtain ⟨a2, a3⟩ := Prod.mk.inj a1
    obtain ⟨a4, _⟩ := Prod.mk.inj a3
    exact congrArg some (Prod.ext a2 (Prod.ext a4 b1))
end Hd

set_option Elab.async false
set_option linter.all false
set_option maxRecDepth 100000
set_option maxHeartbeats 2000000
section
open PySem PySem.Spec L2
namespace Hh
def top (i : Nat) : Stmt := PySem.Challenge.pw_rungworks_k42_always.main.body.getD i (.Pass ⟨0, 0, 0, 0⟩)
abbrev sSIGNS : Str := "abcdefghijklmnopqrstuvwxyz"
def keptL : List Str := ["on", "off", "and", "or", "not", "set", "reset", "timer", "counter", "inputs", "outputs"]
def keptV : List V := keptL.map V.str
def facts0 (K : PySem.W.Frag) : List Bool := [Hd.gB K "law" (He.ga K "law"),
  Hd.gB K "is_word" (He.ga K "is_word"),
  Hd.gB K "is_name" (He.ga K "is_name"),
  Hd.conB K "SIGNS" (.str sSIGNS),
  Hd.conB K "MOST_SIGNS" (.int 8),
  Hd.tupB K "KEPT" keptV,
  Hd.noB K "len",
  Hd.clsB K "Coil" (He.ga K "Coil"),
  Hd.clsB K "Latch" (He.ga K "Latch"),
  Hd.clsB K "Unlatch" (He.ga K "Unlatch"),
  Hd.clsB K "Timer" (He.ga K "Timer"),
  Hd.clsB K "Counter" (He.ga K "Counter"),
  Hd.clsB K "End" (He.ga K "End"),
  Hd.naB K (He.ga K "Coil") "name",
  Hd.naB K (He.ga K "Latch") "name",
  Hd.naB K (He.ga K "Unlatch") "name",
  Hd.naB K (He.ga K "Timer") "name",
  Hd.naB K (He.ga K "Counter") "name",
  Hd.naB K (He.ga K "Timer") "most",
  Hd.naB K (He.ga K "Counter") "most",
  Hd.metB K (He.ga K "Coil") "ahead",
  Hd.metB K (He.ga K "Latch") "ahead",
  Hd.metB K (He.ga K "Unlatch") "ahead",
  Hd.metB K (He.ga K "Timer") "ahead",
  Hd.metB K (He.ga K "Counter") "ahead",
  Hd.metB K (He.ga K "Coil") "behind",
  Hd.metB K (He.ga K "Latch") "behind",
  Hd.metB K (He.ga K "Unlatch") "behind",
  Hd.metB K (He.ga K "Timer") "behind",
  Hd.metB K (He.ga K "Counter") "behind",
  Hd.metB K (He.ga K "Coil") "text",
  Hd.metB K (He.ga K "Latch") "text",
  Hd.metB K (He.ga K "Unlatch") "text",
  Hd.metB K (He.ga K "Timer") "text",
  Hd.metB K (He.ga K "Counter") "text",
  Hd.metB K (He.ga K "Coil") "__init__",
  Hd.metB K (He.ga K "Latch") "__init__",
  Hd.metB K (He.ga K "Unlatch") "__init__",
  Hd.metB K (He.ga K "Timer") "__init__",
  Hd.metB K (He.ga K "Counter") "__init__",
  Hd.cfnB K (He.ga K "End") "__init__",
  decide ([(He.ga K "Coil"), (He.ga K "Latch"), (He.ga K "Unlatch"), (He.ga K "Timer"), (He.ga K "Counter")].Nodup),
  Hd.noB K "isinstance",
  Hd.noB K "int",
  Hd.noB K "bool",
  Hd.noB K "str",
  Hd.conB K "MOST_COUNT" (.int 9),
  Hd.oneB K (He.ga K "Coil") (He.ga K "Coil") true,
  Hd.oneB K (He.ga K "Coil") (He.ga K "Latch") false,
  Hd.oneB K (He.ga K "Coil") (He.ga K "Unlatch") false,
  Hd.oneB K (He.ga K "Coil") (He.ga K "Timer") false,
  Hd.oneB K (He.ga K "Coil") (He.ga K "Counter") false,
  Hd.oneB K (He.ga K "Latch") (He.ga K "Coil") false,
  Hd.oneB K (He.ga K "Latch") (He.ga K "Latch") true,
  Hd.oneB K (He.ga K "Latch") (He.ga K "Unlatch") false,
  Hd.oneB K (He.ga K "Latch") (He.ga K "Timer") false,
  Hd.oneB K (He.ga K "Latch") (He.ga K "Counter") false,
  Hd.oneB K (He.ga K "Unlatch") (He.ga K "Coil") false,
  Hd.oneB K (He.ga K "Unlatch") (He.ga K "Latch") false,
  Hd.oneB K (He.ga K "Unlatch") (He.ga K "Unlatch") true,
  Hd.oneB K (He.ga K "Unlatch") (He.ga K "Timer") false,
  Hd.oneB K (He.ga K "Unlatch") (He.ga K "Counter") false,
  Hd.oneB K (He.ga K "Timer") (He.ga K "Coil") false,
  Hd.oneB K (He.ga K "Timer") (He.ga K "Latch") false,
  Hd.oneB K (He.ga K "Timer") (He.ga K "Unlatch") false,
  Hd.oneB K (He.ga K "Timer") (He.ga K "Timer") true,
  Hd.oneB K (He.ga K "Timer") (He.ga K "Counter") false,
  Hd.oneB K (He.ga K "Counter") (He.ga K "Coil") false,
  Hd.oneB K (He.ga K "Counter") (He.ga K "Latch") false,
  Hd.oneB K (He.ga K "Counter") (He.ga K "Unlatch") false,
  Hd.oneB K (He.ga K "Counter") (He.ga K "Timer") false,
  Hd.oneB K (He.ga K "Counter") (He.ga K "Counter") true,
  Hd.oneB K (He.ga K "Coil") (He.ga K "End") true,
  Hd.oneB K (He.ga K "Latch") (He.ga K "End") true,
  Hd.oneB K (He.ga K "Unlatch") (He.ga K "End") true,
  Hd.oneB K (He.ga K "Timer") (He.ga K "End") true,
  Hd.oneB K (He.ga K "Counter") (He.ga K "End") true,
  Hd.errB K "LadderError" (He.ga K "LadderError"),
  Hd.excB K "NoName" (He.ga K "NoName") (He.ga K "LadderError"),
  Hd.excB K "NoPart" (He.ga K "NoPart") (He.ga K "LadderError"),
  Hd.excB K "NoEnd" (He.ga K "NoEnd") (He.ga K "LadderError"),
  Hd.excB K "NoLadder" (He.ga K "NoLadder") (He.ga K "LadderError"),
  Hd.excB K "NoSheet" (He.ga K "NoSheet") (He.ga K "LadderError"),
  Hd.excB K "TooMany" (He.ga K "TooMany") (He.ga K "LadderError"),
  decide ([(He.ga K "LadderError"), (He.ga K "NoName"), (He.ga K "NoPart"), (He.ga K "NoEnd"), (He.ga K "NoLadder"), (He.ga K "NoSheet"), (He.ga K "TooMany")].Nodup),
  Hd.clsB K "Rung" (He.ga K "Rung"),
  Hd.clsB K "Ladder" (He.ga K "Ladder"),
  Hd.clsB K "Counting" (He.ga K "Counting"),
  Hd.oneB K (He.ga K "Coil") (He.ga K "Counting") false,
  Hd.oneB K (He.ga K "Latch") (He.ga K "Counting") false,
  Hd.oneB K (He.ga K "Unlatch") (He.ga K "Counting") false,
  Hd.oneB K (He.ga K "Timer") (He.ga K "Counting") true,
  Hd.oneB K (He.ga K "Counter") (He.ga K "Counting") true,
  Hd.naB K (He.ga K "Rung") "part",
  Hd.naB K (He.ga K "Rung") "end",
  Hd.naB K (He.ga K "Ladder") "inputs",
  Hd.naB K (He.ga K "Ladder") "outputs",
  Hd.naB K (He.ga K "Ladder") "rungs",
  Hd.gB K "need_between" (He.ga K "need_between"),
  Hd.gB K "need_single" (He.ga K "need_single"),
  Hd.gB K "need_own" (He.ga K "need_own"),
  Hd.metB K (He.ga K "Rung") "__init__",
  Hd.metB K (He.ga K "Ladder") "__init__",
  Hd.metB K (He.ga K "Ladder") "written_names",
  Hd.noB K "set",
  Hd.noB K "tuple",
  Hd.noB K "any",
  Hd.conB K "MOST_NAMES_ladders" (.int 6),
  Hd.conB K "MOST_RUNGS" (.int 30),
  Hd.conB K "MOST_WRITTEN" (.int 20),
  Hd.clsB K "Fixed" (He.ga K "Fixed"),
  Hd.clsB K "Contact" (He.ga K "Contact"),
  Hd.clsB K "Turned" (He.ga K "Turned"),
  Hd.clsB K "Series" (He.ga K "Series")]
def facts1 (K : PySem.W.Frag) : List Bool := [Hd.clsB K "Branch" (He.ga K "Branch"),
  decide ([(He.ga K "Fixed"), (He.ga K "Contact"), (He.ga K "Turned"), (He.ga K "Series"), (He.ga K "Branch")].Nodup),
  Hd.naB K (He.ga K "Fixed") "value",
  Hd.naB K (He.ga K "Contact") "name",
  Hd.naB K (He.ga K "Turned") "part",
  Hd.naB K (He.ga K "Series") "parts",
  Hd.naB K (He.ga K "Branch") "parts",
  Hd.metB K (He.ga K "Fixed") "inner",
  Hd.metB K (He.ga K "Contact") "inner",
  Hd.metB K (He.ga K "Turned") "inner",
  Hd.metB K (He.ga K "Series") "inner",
  Hd.metB K (He.ga K "Branch") "inner",
  Hd.metB K (He.ga K "Fixed") "size",
  Hd.metB K (He.ga K "Contact") "size",
  Hd.metB K (He.ga K "Turned") "size",
  Hd.metB K (He.ga K "Series") "size",
  Hd.metB K (He.ga K "Branch") "size",
  Hd.metB K (He.ga K "Fixed") "depth",
  Hd.metB K (He.ga K "Contact") "depth",
  Hd.metB K (He.ga K "Turned") "depth",
  Hd.metB K (He.ga K "Series") "depth",
  Hd.metB K (He.ga K "Branch") "depth",
  Hd.metB K (He.ga K "Turned") "bounded",
  Hd.metB K (He.ga K "Series") "bounded",
  Hd.metB K (He.ga K "Branch") "bounded",
  Hd.noB K "sum",
  Hd.noB K "max",
  Hd.conB K "MOST_SIZE" (.int 60),
  Hd.conB K "MOST_DEEP" (.int 20),
  Hd.metB K (He.ga K "Fixed") "__init__",
  Hd.metB K (He.ga K "Contact") "__init__",
  Hd.metB K (He.ga K "Turned") "__init__",
  Hd.metB K (He.ga K "Series") "__init__",
  Hd.metB K (He.ga K "Branch") "__init__",
  Hd.gB K "single" (He.ga K "single"),
  Hd.gB K "joined" (He.ga K "joined"),
  Hd.gB K "part_of" (He.ga K "part_of"),
  Hd.gB K "_law_cell_at" (He.ga K "_law_cell_at"),
  Hd.gB K "_law_mixed" (He.ga K "_law_mixed"),
  Hd.gB K "_law_word" (He.ga K "_law_word"),
  Hd.gB K "_law_names" (He.ga K "_law_names"),
  Hd.noB K "range",
  Hd.gB K "_law_grown" (He.ga K "_law_grown"),
  Hd.gB K "_law_condition" (He.ga K "_law_condition"),
  Hd.gB K "_law_end" (He.ga K "_law_end"),
  Hd.gB K "_law_ladder_by" (He.ga K "_law_ladder_by"),
  Hd.noB K "list",
  Hd.clsB K "Sheet" (He.ga K "Sheet"),
  Hd.naB K (He.ga K "Sheet") "names",
  Hd.naB K (He.ga K "Sheet") "nodes",
  Hd.naB K (He.ga K "Sheet") "numbers",
  Hd.metB K (He.ga K "Sheet") "place",
  Hd.metB K (He.ga K "Sheet") "made",
  Hd.metB K (He.ga K "Sheet") "below",
  Hd.metB K (He.ga K "Sheet") "joined",
  Hd.conB K "MOST_NODES" (.int 2000),
  Hd.noB K "min",
  Hd.metB K (He.ga K "Sheet") "opposite",
  Hd.oneB K (He.ga K "Fixed") (He.ga K "Fixed") true,
  Hd.oneB K (He.ga K "Fixed") (He.ga K "Contact") false,
  Hd.oneB K (He.ga K "Fixed") (He.ga K "Turned") false,
  Hd.oneB K (He.ga K "Fixed") (He.ga K "Series") false,
  Hd.oneB K (He.ga K "Contact") (He.ga K "Fixed") false,
  Hd.oneB K (He.ga K "Contact") (He.ga K "Contact") true,
  Hd.oneB K (He.ga K "Contact") (He.ga K "Turned") false,
  Hd.oneB K (He.ga K "Contact") (He.ga K "Series") false,
  Hd.oneB K (He.ga K "Turned") (He.ga K "Fixed") false,
  Hd.oneB K (He.ga K "Turned") (He.ga K "Contact") false,
  Hd.oneB K (He.ga K "Turned") (He.ga K "Turned") true,
  Hd.oneB K (He.ga K "Turned") (He.ga K "Series") false,
  Hd.oneB K (He.ga K "Series") (He.ga K "Fixed") false,
  Hd.oneB K (He.ga K "Series") (He.ga K "Contact") false,
  Hd.oneB K (He.ga K "Series") (He.ga K "Turned") false,
  Hd.oneB K (He.ga K "Series") (He.ga K "Series") true,
  Hd.oneB K (He.ga K "Branch") (He.ga K "Fixed") false,
  Hd.oneB K (He.ga K "Branch") (He.ga K "Contact") false,
  Hd.oneB K (He.ga K "Branch") (He.ga K "Turned") false,
  Hd.oneB K (He.ga K "Branch") (He.ga K "Series") false,
  Hd.metB K (He.ga K "Sheet") "drawn",
  Hd.metB K (He.ga K "Fixed") "gather",
  Hd.metB K (He.ga K "Contact") "gather",
  Hd.metB K (He.ga K "Turned") "gather",
  Hd.metB K (He.ga K "Series") "gather",
  Hd.metB K (He.ga K "Branch") "gather",
  Hd.metB K (He.ga K "Fixed") "contacts",
  Hd.metB K (He.ga K "Contact") "contacts",
  Hd.metB K (He.ga K "Turned") "contacts",
  Hd.metB K (He.ga K "Series") "contacts",
  Hd.metB K (He.ga K "Branch") "contacts",
  Hd.metB K (He.ga K "Sheet") "__init__",
  Hd.metB K (He.ga K "Sheet") "need",
  Hd.metB K (He.ga K "Sheet") "node",
  Hd.conB K "MOST_NAMES_sheets" (.int 60),
  Hd.metB K (He.ga K "Sheet") "row",
  Hd.metB K (He.ga K "Sheet") "turned",
  Hd.gB K "always" (He.ga K "always"),
  Hd.noB K "enumerate",
  Hd.gB K "_law_holds" (He.ga K "_law_holds"),
  Hd.gB K "_law_row" (He.ga K "_law_row"),
  Hd.gB K "_law_contacts" (He.ga K "_law_contacts"),
  Hd.gB K "_law_truths" (He.ga K "_law_truths"),
  Hd.gB K "_law_can" (He.ga K "_law_can"),
  Hd.gB K "_law_whole" (He.ga K "_law_whole"),
  Hd.metB K (He.ga K "Fixed") "told",
  Hd.metB K (He.ga K "Contact") "told",
  Hd.metB K (He.ga K "Turned") "told",
  Hd.metB K (He.ga K "Series") "told",
  Hd.metB K (He.ga K "Branch") "told",
  Hd.metB K (He.ga K "Series") "word",
  Hd.metB K (He.ga K "Branch") "word",
  Hd.gB K "_law_image" (He.ga K "_law_image"),
  Hd.gB K "_law_right" (He.ga K "_law_right"),
  Hd.noB K "dict",
  Hd.gB K "_law_wide" (He.ga K "_law_wide"),
  Hd.gB K "_law_with_wide" (He.ga K "_law_with_wide")]
def facts : PySem.W.Frag → List Bool := (fun K => facts0 K ++ facts1 K)
def defs0 : List He5.DefA := [Hd.dA (fun K => He.ga K "law") "law" "law" (top 72),
  Hd.dA (fun K => He.ga K "is_word") "is_word" "is_word" (top 13),
  Hd.dA (fun K => He.ga K "is_name") "is_name" "is_name" (top 14),
  Hd.dA (fun K => He.ma K (He.ga K "Coil") "ahead") "ahead" "End.ahead" (inClass (top 37) 1),
  Hd.dA (fun K => He.ma K (He.ga K "Latch") "ahead") "ahead" "Latch.ahead" (inClass (top 39) 0),
  Hd.dA (fun K => He.ma K (He.ga K "Unlatch") "ahead") "ahead" "Unlatch.ahead" (inClass (top 40) 0),
  Hd.dA (fun K => He.ma K (He.ga K "Timer") "ahead") "ahead" "Timer.ahead" (inClass (top 42) 0),
  Hd.dA (fun K => He.ma K (He.ga K "Counter") "ahead") "ahead" "Counter.ahead" (inClass (top 43) 0),
  Hd.dA (fun K => He.ma K (He.ga K "Coil") "behind") "behind" "End.behind" (inClass (top 37) 2),
  Hd.dA (fun K => He.ma K (He.ga K "Latch") "behind") "behind" "End.behind" (inClass (top 37) 2),
  Hd.dA (fun K => He.ma K (He.ga K "Unlatch") "behind") "behind" "End.behind" (inClass (top 37) 2),
  Hd.dA (fun K => He.ma K (He.ga K "Timer") "behind") "behind" "Counting.behind" (inClass (top 41) 1),
  Hd.dA (fun K => He.ma K (He.ga K "Counter") "behind") "behind" "Counting.behind" (inClass (top 41) 1),
  Hd.dA (fun K => He.ma K (He.ga K "Coil") "text") "text" "End.text" (inClass (top 37) 3),
  Hd.dA (fun K => He.ma K (He.ga K "Latch") "text") "text" "End.text" (inClass (top 37) 3),
  Hd.dA (fun K => He.ma K (He.ga K "Unlatch") "text") "text" "End.text" (inClass (top 37) 3),
  Hd.dA (fun K => He.ma K (He.ga K "Timer") "text") "text" "End.text" (inClass (top 37) 3),
  Hd.dA (fun K => He.ma K (He.ga K "Counter") "text") "text" "End.text" (inClass (top 37) 3),
  Hd.dA (fun K => He.ma K (He.ga K "Coil") "__init__") "__init__" "End.__init__" (inClass (top 37) 0),
  Hd.dA (fun K => He.ma K (He.ga K "Latch") "__init__") "__init__" "End.__init__" (inClass (top 37) 0),
  Hd.dA (fun K => He.ma K (He.ga K "Unlatch") "__init__") "__init__" "End.__init__" (inClass (top 37) 0),
  Hd.dA (fun K => He.ma K (He.ga K "Timer") "__init__") "__init__" "Counting.__init__" (inClass (top 41) 0),
  Hd.dA (fun K => He.ma K (He.ga K "Counter") "__init__") "__init__" "Counting.__init__" (inClass (top 41) 0),
  Hd.dA (fun K => Hd.ca K (He.ga K "End") "__init__") "__init__" "End.__init__" (inClass (top 37) 0),
  Hd.dA (fun K => He.ga K "need_between") "need_between" "need_between" (top 49),
  Hd.dA (fun K => He.ga K "need_single") "need_single" "need_single" (top 50),
  Hd.dA (fun K => He.ga K "need_own") "need_own" "need_own" (top 51),
  Hd.dA (fun K => He.ma K (He.ga K "Rung") "__init__") "__init__" "Rung.__init__" (inClass (top 48) 0),
  Hd.dA (fun K => He.ma K (He.ga K "Ladder") "__init__") "__init__" "Ladder.__init__" (inClass (top 52) 0),
  Hd.dA (fun K => He.ma K (He.ga K "Ladder") "written_names") "written_names" "Ladder.written_names" (inClass (top 52) 1),
  Hd.dA (fun K => He.ma K (He.ga K "Fixed") "inner") "inner" "Part.inner" (inClass (top 18) 0),
  Hd.dA (fun K => He.ma K (He.ga K "Contact") "inner") "inner" "Part.inner" (inClass (top 18) 0),
  Hd.dA (fun K => He.ma K (He.ga K "Turned") "inner") "inner" "Turned.inner" (inClass (top 21) 1),
  Hd.dA (fun K => He.ma K (He.ga K "Series") "inner") "inner" "Group.inner" (inClass (top 22) 1),
  Hd.dA (fun K => He.ma K (He.ga K "Branch") "inner") "inner" "Group.inner" (inClass (top 22) 1),
  Hd.dA (fun K => He.ma K (He.ga K "Fixed") "size") "size" "Part.size" (inClass (top 18) 4),
  Hd.dA (fun K => He.ma K (He.ga K "Contact") "size") "size" "Part.size" (inClass (top 18) 4),
  Hd.dA (fun K => He.ma K (He.ga K "Turned") "size") "size" "Part.size" (inClass (top 18) 4),
  Hd.dA (fun K => He.ma K (He.ga K "Series") "size") "size" "Part.size" (inClass (top 18) 4),
  Hd.dA (fun K => He.ma K (He.ga K "Branch") "size") "size" "Part.size" (inClass (top 18) 4),
  Hd.dA (fun K => He.ma K (He.ga K "Fixed") "depth") "depth" "Part.depth" (inClass (top 18) 5),
  Hd.dA (fun K => He.ma K (He.ga K "Contact") "depth") "depth" "Part.depth" (inClass (top 18) 5),
  Hd.dA (fun K => He.ma K (He.ga K "Turned") "depth") "depth" "Part.depth" (inClass (top 18) 5),
  Hd.dA (fun K => He.ma K (He.ga K "Series") "depth") "depth" "Part.depth" (inClass (top 18) 5),
  Hd.dA (fun K => He.ma K (He.ga K "Branch") "depth") "depth" "Part.depth" (inClass (top 18) 5),
  Hd.dA (fun K => He.ma K (He.ga K "Turned") "bounded") "bounded" "Part.bounded" (inClass (top 18) 8),
  Hd.dA (fun K => He.ma K (He.ga K "Series") "bounded") "bounded" "Part.bounded" (inClass (top 18) 8),
  Hd.dA (fun K => He.ma K (He.ga K "Branch") "bounded") "bounded" "Part.bounded" (inClass (top 18) 8),
  Hd.dA (fun K => He.ma K (He.ga K "Fixed") "__init__") "__init__" "Fixed.__init__" (inClass (top 19) 0),
  Hd.dA (fun K => He.ma K (He.ga K "Contact") "__init__") "__init__" "Contact.__init__" (inClass (top 20) 0),
  Hd.dA (fun K => He.ma K (He.ga K "Turned") "__init__") "__init__" "Turned.__init__" (inClass (top 21) 0)]
def defs1 : List He5.DefA := [Hd.dA (fun K => He.ma K (He.ga K "Series") "__init__") "__init__" "Group.__init__" (inClass (top 22) 0),
  Hd.dA (fun K => He.ma K (He.ga K "Branch") "__init__") "__init__" "Group.__init__" (inClass (top 22) 0),
  Hd.dA (fun K => He.ga K "single") "single" "single" (top 26),
  Hd.dA (fun K => He.ga K "joined") "joined" "joined" (top 27),
  Hd.dA (fun K => He.ga K "part_of") "part_of" "part_of" (top 28),
  Hd.dA (fun K => He.ga K "_law_cell_at") "_law_cell_at" "_law_cell_at" (top 54),
  Hd.dA (fun K => He.ga K "_law_mixed") "_law_mixed" "_law_mixed" (top 55),
  Hd.dA (fun K => He.ga K "_law_word") "_law_word" "_law_word" (top 56),
  Hd.dA (fun K => He.ga K "_law_names") "_law_names" "_law_names" (top 57),
  Hd.dA (fun K => He.ga K "_law_grown") "_law_grown" "_law_grown" (top 58),
  Hd.dA (fun K => He.ga K "_law_condition") "_law_condition" "_law_condition" (top 59),
  Hd.dA (fun K => He.ga K "_law_end") "_law_end" "_law_end" (top 60),
  Hd.dA (fun K => He.ga K "_law_ladder_by") "_law_ladder_by" "_law_ladder_by" (top 61),
  Hd.dA (fun K => He.ma K (He.ga K "Sheet") "place") "place" "Sheet.place" (inClass (top 32) 1),
  Hd.dA (fun K => He.ma K (He.ga K "Sheet") "made") "made" "Sheet.made" (inClass (top 32) 2),
  Hd.dA (fun K => He.ma K (He.ga K "Sheet") "below") "below" "Sheet.below" (inClass (top 32) 3),
  Hd.dA (fun K => He.ma K (He.ga K "Sheet") "joined") "joined" "Sheet.joined" (inClass (top 32) 5),
  Hd.dA (fun K => He.ma K (He.ga K "Sheet") "opposite") "opposite" "Sheet.opposite" (inClass (top 32) 6),
  Hd.dA (fun K => He.ma K (He.ga K "Sheet") "drawn") "drawn" "Sheet.drawn" (inClass (top 32) 7),
  Hd.dA (fun K => He.ma K (He.ga K "Fixed") "gather") "gather" "Part.gather" (inClass (top 18) 6),
  Hd.dA (fun K => He.ma K (He.ga K "Contact") "gather") "gather" "Contact.gather" (inClass (top 20) 4),
  Hd.dA (fun K => He.ma K (He.ga K "Turned") "gather") "gather" "Part.gather" (inClass (top 18) 6),
  Hd.dA (fun K => He.ma K (He.ga K "Series") "gather") "gather" "Part.gather" (inClass (top 18) 6),
  Hd.dA (fun K => He.ma K (He.ga K "Branch") "gather") "gather" "Part.gather" (inClass (top 18) 6),
  Hd.dA (fun K => He.ma K (He.ga K "Fixed") "contacts") "contacts" "Part.contacts" (inClass (top 18) 7),
  Hd.dA (fun K => He.ma K (He.ga K "Contact") "contacts") "contacts" "Part.contacts" (inClass (top 18) 7),
  Hd.dA (fun K => He.ma K (He.ga K "Turned") "contacts") "contacts" "Part.contacts" (inClass (top 18) 7),
  Hd.dA (fun K => He.ma K (He.ga K "Series") "contacts") "contacts" "Part.contacts" (inClass (top 18) 7),
  Hd.dA (fun K => He.ma K (He.ga K "Branch") "contacts") "contacts" "Part.contacts" (inClass (top 18) 7),
  Hd.dA (fun K => He.ma K (He.ga K "Sheet") "__init__") "__init__" "Sheet.__init__" (inClass (top 32) 0),
  Hd.dA (fun K => He.ma K (He.ga K "Sheet") "need") "need" "Sheet.need" (inClass (top 32) 8),
  Hd.dA (fun K => He.ma K (He.ga K "Sheet") "node") "node" "Sheet.node" (inClass (top 32) 9),
  Hd.dA (fun K => He.ma K (He.ga K "Sheet") "row") "row" "Sheet.row" (inClass (top 32) 15),
  Hd.dA (fun K => He.ma K (He.ga K "Sheet") "turned") "turned" "Sheet.turned" (inClass (top 32) 13),
  Hd.dA (fun K => He.ga K "always") "always" "always" (top 34),
  Hd.dA (fun K => He.ga K "_law_holds") "_law_holds" "_law_holds" (top 62),
  Hd.dA (fun K => He.ga K "_law_row") "_law_row" "_law_row" (top 63),
  Hd.dA (fun K => He.ga K "_law_contacts") "_law_contacts" "_law_contacts" (top 65),
  Hd.dA (fun K => He.ga K "_law_truths") "_law_truths" "_law_truths" (top 64),
  Hd.dA (fun K => He.ga K "_law_can") "_law_can" "_law_can" (top 70),
  Hd.dA (fun K => He.ga K "_law_whole") "_law_whole" "_law_whole" (top 66),
  Hd.dA (fun K => He.ma K (He.ga K "Fixed") "told") "told" "Fixed.told" (inClass (top 19) 2),
  Hd.dA (fun K => He.ma K (He.ga K "Contact") "told") "told" "Contact.told" (inClass (top 20) 2),
  Hd.dA (fun K => He.ma K (He.ga K "Turned") "told") "told" "Turned.told" (inClass (top 21) 3),
  Hd.dA (fun K => He.ma K (He.ga K "Series") "told") "told" "Group.told" (inClass (top 22) 4),
  Hd.dA (fun K => He.ma K (He.ga K "Branch") "told") "told" "Group.told" (inClass (top 22) 4),
  Hd.dA (fun K => He.ma K (He.ga K "Series") "word") "word" "Series.word" (inClass (top 23) 1),
  Hd.dA (fun K => He.ma K (He.ga K "Branch") "word") "word" "Branch.word" (inClass (top 24) 1),
  Hd.dA (fun K => He.ga K "_law_image") "_law_image" "_law_image" (top 67),
  Hd.dA (fun K => He.ga K "_law_right") "_law_right" "_law_right" (top 71),
  Hd.dA (fun K => He.ga K "_law_wide") "_law_wide" "_law_wide" (top 68),
  Hd.dA (fun K => He.ga K "_law_with_wide") "_law_with_wide" "_law_with_wide" (top 69)]
def defs : List He5.DefA := (defs0 ++ defs1)
def names0 : List PySem.Str := ["_wall", "LadderError", "NoName", "NoPart", "NoEnd", "NoLadder", "NoSheet", "TooMany", "SIGNS", "MOST_SIGNS", "KEPT", "is_word", "is_name", "MOST_SIZE", "MOST_DEEP", "Part"]
def names1 : List PySem.Str := ["Fixed", "Contact", "Turned", "Group", "Series", "Branch", "bracketed", "single", "joined", "part_of", "MOST_NAMES_sheets", "MOST_NODES", "Sheet", "always", "MOST_COUNT", "End"]
def names2 : List PySem.Str := ["Coil", "Latch", "Unlatch", "Counting", "Timer", "Counter", "MOST_NAMES_ladders", "MOST_RUNGS", "MOST_WRITTEN", "Rung", "need_between", "need_single", "need_own", "Ladder", "_law_cell_at", "_law_mixed"]
def names3 : List PySem.Str := ["_law_word", "_law_names", "_law_grown", "_law_condition", "_law_end", "_law_ladder_by", "_law_holds", "_law_row", "_law_truths", "_law_contacts", "_law_whole", "_law_image", "_law_wide", "_law_with_wide", "_law_can", "_law_right"]
def names : List PySem.Str := names0 ++ names1 ++ names2 ++ names3
def addrs0 : List Nat := [nat_lit 3, nat_lit 6, nat_lit 4, nat_lit 21, nat_lit 31, nat_lit 44, nat_lit 56, nat_lit 68, nat_lit 80, nat_lit 92, nat_lit 104, nat_lit 107, nat_lit 114, nat_lit 121, nat_lit 190, nat_lit 232, nat_lit 279, nat_lit 326, nat_lit 376, nat_lit 400, nat_lit 431, nat_lit 440, nat_lit 447, nat_lit 454, nat_lit 461, nat_lit 597, nat_lit 608, nat_lit 646, nat_lit 660, nat_lit 679, nat_lit 698, nat_lit 724, nat_lit 743, nat_lit 762, nat_lit 781, nat_lit 792, nat_lit 799, nat_lit 806, nat_lit 828, nat_lit 839]
def addrs1 : List Nat := [nat_lit 846, nat_lit 853, nat_lit 860, nat_lit 867, nat_lit 874, nat_lit 881, nat_lit 888, nat_lit 893, nat_lit 900, nat_lit 905, nat_lit 912, nat_lit 919, nat_lit 926, nat_lit 931, nat_lit 938, nat_lit 945, nat_lit 950, nat_lit 957, nat_lit 0, nat_lit 20, nat_lit 30, nat_lit 43, nat_lit 55, nat_lit 67, nat_lit 79, nat_lit 91, nat_lit 103, nat_lit 113, nat_lit 120, nat_lit 189, nat_lit 231, nat_lit 278, nat_lit 325, nat_lit 375, nat_lit 399, nat_lit 430, nat_lit 439, nat_lit 446, nat_lit 453, nat_lit 460]
def addrs2 : List Nat := [nat_lit 596, nat_lit 607, nat_lit 645, nat_lit 659, nat_lit 678, nat_lit 697, nat_lit 723, nat_lit 742, nat_lit 761, nat_lit 780, nat_lit 791, nat_lit 798, nat_lit 805, nat_lit 827, nat_lit 838, nat_lit 845, nat_lit 852, nat_lit 859, nat_lit 866, nat_lit 873, nat_lit 880, nat_lit 887, nat_lit 892, nat_lit 899, nat_lit 904, nat_lit 911, nat_lit 918, nat_lit 925, nat_lit 930, nat_lit 937, nat_lit 944, nat_lit 949, nat_lit 956, nat_lit 15, nat_lit 16, nat_lit 17, nat_lit 18, nat_lit 19, nat_lit 29, nat_lit 32]
def addrs3 : List Nat := [nat_lit 42, nat_lit 54, nat_lit 66, nat_lit 78, nat_lit 90, nat_lit 102, nat_lit 108, nat_lit 109, nat_lit 110, nat_lit 111, nat_lit 112, nat_lit 115, nat_lit 116, nat_lit 117, nat_lit 118, nat_lit 119, nat_lit 135, nat_lit 142, nat_lit 149, nat_lit 156, nat_lit 161, nat_lit 166, nat_lit 173, nat_lit 180, nat_lit 187, nat_lit 188, nat_lit 191, nat_lit 192, nat_lit 208, nat_lit 215, nat_lit 222, nat_lit 229, nat_lit 230, nat_lit 248, nat_lit 255, nat_lit 262, nat_lit 269, nat_lit 276, nat_lit 277, nat_lit 295]
def addrs4 : List Nat := [nat_lit 302, nat_lit 309, nat_lit 316, nat_lit 323, nat_lit 324, nat_lit 342, nat_lit 349, nat_lit 356, nat_lit 363, nat_lit 368, nat_lit 373, nat_lit 374, nat_lit 390, nat_lit 397, nat_lit 398, nat_lit 414, nat_lit 421, nat_lit 428, nat_lit 429, nat_lit 434, nat_lit 435, nat_lit 436, nat_lit 437, nat_lit 438, nat_lit 441, nat_lit 442, nat_lit 443, nat_lit 444, nat_lit 445, nat_lit 448, nat_lit 449, nat_lit 450, nat_lit 451, nat_lit 452, nat_lit 455, nat_lit 456, nat_lit 457, nat_lit 458, nat_lit 459, nat_lit 475]
def addrs5 : List Nat := [nat_lit 482, nat_lit 489, nat_lit 496, nat_lit 503, nat_lit 510, nat_lit 517, nat_lit 524, nat_lit 531, nat_lit 538, nat_lit 545, nat_lit 552, nat_lit 559, nat_lit 566, nat_lit 573, nat_lit 580, nat_lit 587, nat_lit 594, nat_lit 595, nat_lit 598, nat_lit 599, nat_lit 602, nat_lit 603, nat_lit 604, nat_lit 605, nat_lit 606, nat_lit 622, nat_lit 629, nat_lit 636, nat_lit 643, nat_lit 644, nat_lit 647, nat_lit 648, nat_lit 658, nat_lit 676, nat_lit 677, nat_lit 695, nat_lit 696, nat_lit 714, nat_lit 721, nat_lit 722]
def addrs6 : List Nat := [nat_lit 740, nat_lit 741, nat_lit 759, nat_lit 760, nat_lit 778, nat_lit 779, nat_lit 782, nat_lit 783, nat_lit 786, nat_lit 787, nat_lit 788, nat_lit 789, nat_lit 790, nat_lit 793, nat_lit 794, nat_lit 795, nat_lit 796, nat_lit 797, nat_lit 800, nat_lit 801, nat_lit 802, nat_lit 803, nat_lit 804, nat_lit 818, nat_lit 825, nat_lit 826, nat_lit 829, nat_lit 830, nat_lit 833, nat_lit 834, nat_lit 835, nat_lit 836, nat_lit 837, nat_lit 840, nat_lit 841, nat_lit 842, nat_lit 843, nat_lit 844, nat_lit 847, nat_lit 848]
def addrs7 : List Nat := [nat_lit 849, nat_lit 850, nat_lit 851, nat_lit 854, nat_lit 855, nat_lit 856, nat_lit 857, nat_lit 858, nat_lit 861, nat_lit 862, nat_lit 863, nat_lit 864, nat_lit 865, nat_lit 868, nat_lit 869, nat_lit 870, nat_lit 871, nat_lit 872, nat_lit 875, nat_lit 876, nat_lit 877, nat_lit 878, nat_lit 879, nat_lit 882, nat_lit 883, nat_lit 884, nat_lit 885, nat_lit 886, nat_lit 889, nat_lit 890, nat_lit 891, nat_lit 894, nat_lit 895, nat_lit 896, nat_lit 897, nat_lit 898, nat_lit 901, nat_lit 902, nat_lit 903, nat_lit 906]
def addrs8 : List Nat := [nat_lit 907, nat_lit 908, nat_lit 909, nat_lit 910, nat_lit 913, nat_lit 914, nat_lit 915, nat_lit 916, nat_lit 917, nat_lit 920, nat_lit 921, nat_lit 922, nat_lit 923, nat_lit 924, nat_lit 927, nat_lit 928, nat_lit 929, nat_lit 932, nat_lit 933, nat_lit 934, nat_lit 935, nat_lit 936, nat_lit 939, nat_lit 940, nat_lit 941, nat_lit 942, nat_lit 943, nat_lit 946, nat_lit 947, nat_lit 948, nat_lit 951, nat_lit 952, nat_lit 953, nat_lit 954, nat_lit 955, nat_lit 134, nat_lit 141, nat_lit 148, nat_lit 155, nat_lit 160]
def addrs9 : List Nat := [nat_lit 165, nat_lit 172, nat_lit 179, nat_lit 186, nat_lit 207, nat_lit 214, nat_lit 221, nat_lit 228, nat_lit 247, nat_lit 254, nat_lit 261, nat_lit 268, nat_lit 275, nat_lit 294, nat_lit 301, nat_lit 308, nat_lit 315, nat_lit 322, nat_lit 341, nat_lit 348, nat_lit 355, nat_lit 362, nat_lit 367, nat_lit 372, nat_lit 389, nat_lit 396, nat_lit 413, nat_lit 420, nat_lit 427, nat_lit 474, nat_lit 481, nat_lit 488, nat_lit 495, nat_lit 502, nat_lit 509, nat_lit 516, nat_lit 523, nat_lit 530, nat_lit 537, nat_lit 544]
def addrs10 : List Nat := [nat_lit 551, nat_lit 558, nat_lit 565, nat_lit 572, nat_lit 579, nat_lit 586, nat_lit 593, nat_lit 621, nat_lit 628, nat_lit 635, nat_lit 642, nat_lit 675, nat_lit 694, nat_lit 713, nat_lit 720, nat_lit 739, nat_lit 758, nat_lit 777, nat_lit 817, nat_lit 824, nat_lit 129, nat_lit 130, nat_lit 131, nat_lit 132, nat_lit 133, nat_lit 136, nat_lit 137, nat_lit 138, nat_lit 139, nat_lit 140, nat_lit 143, nat_lit 144, nat_lit 145, nat_lit 146, nat_lit 147, nat_lit 150, nat_lit 151, nat_lit 152, nat_lit 153, nat_lit 154]
def addrs11 : List Nat := [nat_lit 157, nat_lit 158, nat_lit 159, nat_lit 162, nat_lit 163, nat_lit 164, nat_lit 167, nat_lit 168, nat_lit 169, nat_lit 170, nat_lit 171, nat_lit 174, nat_lit 175, nat_lit 176, nat_lit 177, nat_lit 178, nat_lit 181, nat_lit 182, nat_lit 183, nat_lit 184, nat_lit 185, nat_lit 202, nat_lit 203, nat_lit 204, nat_lit 205, nat_lit 206, nat_lit 209, nat_lit 210, nat_lit 211, nat_lit 212, nat_lit 213, nat_lit 216, nat_lit 217, nat_lit 218, nat_lit 219, nat_lit 220, nat_lit 223, nat_lit 224, nat_lit 225, nat_lit 226]
def addrs12 : List Nat := [nat_lit 227, nat_lit 242, nat_lit 243, nat_lit 244, nat_lit 245, nat_lit 246, nat_lit 249, nat_lit 250, nat_lit 251, nat_lit 252, nat_lit 253, nat_lit 256, nat_lit 257, nat_lit 258, nat_lit 259, nat_lit 260, nat_lit 263, nat_lit 264, nat_lit 265, nat_lit 266, nat_lit 267, nat_lit 270, nat_lit 271, nat_lit 272, nat_lit 273, nat_lit 274, nat_lit 289, nat_lit 290, nat_lit 291, nat_lit 292, nat_lit 293, nat_lit 296, nat_lit 297, nat_lit 298, nat_lit 299, nat_lit 300, nat_lit 303, nat_lit 304, nat_lit 305, nat_lit 306]
def addrs13 : List Nat := [nat_lit 307, nat_lit 310, nat_lit 311, nat_lit 312, nat_lit 313, nat_lit 314, nat_lit 317, nat_lit 318, nat_lit 319, nat_lit 320, nat_lit 321, nat_lit 336, nat_lit 337, nat_lit 338, nat_lit 339, nat_lit 340, nat_lit 343, nat_lit 344, nat_lit 345, nat_lit 346, nat_lit 347, nat_lit 350, nat_lit 351, nat_lit 352, nat_lit 353, nat_lit 354, nat_lit 357, nat_lit 358, nat_lit 359, nat_lit 360, nat_lit 361, nat_lit 364, nat_lit 365, nat_lit 366, nat_lit 369, nat_lit 370, nat_lit 371, nat_lit 386, nat_lit 387, nat_lit 388]
def addrs14 : List Nat := [nat_lit 391, nat_lit 392, nat_lit 393, nat_lit 394, nat_lit 395, nat_lit 410, nat_lit 411, nat_lit 412, nat_lit 415, nat_lit 416, nat_lit 417, nat_lit 418, nat_lit 419, nat_lit 422, nat_lit 423, nat_lit 424, nat_lit 425, nat_lit 426, nat_lit 469, nat_lit 470, nat_lit 471, nat_lit 472, nat_lit 473, nat_lit 476, nat_lit 477, nat_lit 478, nat_lit 479, nat_lit 480, nat_lit 483, nat_lit 484, nat_lit 485, nat_lit 486, nat_lit 487, nat_lit 490, nat_lit 491, nat_lit 492, nat_lit 493, nat_lit 494, nat_lit 497, nat_lit 498]
def addrs15 : List Nat := [nat_lit 499, nat_lit 500, nat_lit 501, nat_lit 504, nat_lit 505, nat_lit 506, nat_lit 507, nat_lit 508, nat_lit 511, nat_lit 512, nat_lit 513, nat_lit 514, nat_lit 515, nat_lit 518, nat_lit 519, nat_lit 520, nat_lit 521, nat_lit 522, nat_lit 525, nat_lit 526, nat_lit 527, nat_lit 528, nat_lit 529, nat_lit 532, nat_lit 533, nat_lit 534, nat_lit 535, nat_lit 536, nat_lit 539, nat_lit 540, nat_lit 541, nat_lit 542, nat_lit 543, nat_lit 546, nat_lit 547, nat_lit 548, nat_lit 549, nat_lit 550, nat_lit 553, nat_lit 554]
def addrs16 : List Nat := [nat_lit 555, nat_lit 556, nat_lit 557, nat_lit 560, nat_lit 561, nat_lit 562, nat_lit 563, nat_lit 564, nat_lit 567, nat_lit 568, nat_lit 569, nat_lit 570, nat_lit 571, nat_lit 574, nat_lit 575, nat_lit 576, nat_lit 577, nat_lit 578, nat_lit 581, nat_lit 582, nat_lit 583, nat_lit 584, nat_lit 585, nat_lit 588, nat_lit 589, nat_lit 590, nat_lit 591, nat_lit 592, nat_lit 616, nat_lit 617, nat_lit 618, nat_lit 619, nat_lit 620, nat_lit 623, nat_lit 624, nat_lit 625, nat_lit 626, nat_lit 627, nat_lit 630, nat_lit 631]
def addrs17 : List Nat := [nat_lit 632, nat_lit 633, nat_lit 634, nat_lit 637, nat_lit 638, nat_lit 639, nat_lit 640, nat_lit 641, nat_lit 670, nat_lit 671, nat_lit 672, nat_lit 673, nat_lit 674, nat_lit 689, nat_lit 690, nat_lit 691, nat_lit 692, nat_lit 693, nat_lit 708, nat_lit 709, nat_lit 710, nat_lit 711, nat_lit 712, nat_lit 715, nat_lit 716, nat_lit 717, nat_lit 718, nat_lit 719, nat_lit 734, nat_lit 735, nat_lit 736, nat_lit 737, nat_lit 738, nat_lit 753, nat_lit 754, nat_lit 755, nat_lit 756, nat_lit 757, nat_lit 772, nat_lit 773]
def addrs18 : List Nat := [nat_lit 774, nat_lit 775, nat_lit 776, nat_lit 814, nat_lit 815, nat_lit 816, nat_lit 819, nat_lit 820, nat_lit 821, nat_lit 822, nat_lit 823, nat_lit 2]
/-- the objects that the module's names reach -/
def addrs : List Nat := addrs0 ++ addrs1 ++ addrs2 ++ addrs3 ++ addrs4 ++ addrs5 ++ addrs6 ++ addrs7 ++ addrs8 ++ addrs9 ++ addrs10 ++ addrs11 ++ addrs12 ++ addrs13 ++ addrs14 ++ addrs15 ++ addrs16 ++ addrs17 ++ addrs18
abbrev hk : PySem.W.Hook := Hd.hook addrs facts defs
def ob (s : PySem.W.SharedT) : He.AlD := Hd.seenG addrs facts defs (HandSHeadRun.getT s)
theorem ob_eq (s : PySem.W.SharedT) : ob s = hk.obs s.abs := Hd.seenG_eq (HandSHeadRun.getT_eq s)
abbrev row : PySem.W.OpenRow := PySem.W.OpenLaw.row PySem.Challenge.rw_rungworks_k42_always
set_option maxHeartbeats 0 in
theorem run_looks (w : World) : HandSHeadRun.RunEq row (PySem.W.view row.prog [72]) PySem.W.Hook.none (fun _ => ()) 9000 names w := by
  intro os
  kernel_rfl
set_option maxHeartbeats 0 in
theorem run_0 (w : World) : Hd.Part row 9000 addrs facts0 defs0 w := by
  intro os
  kernel_rfl
set_option maxHeartbeats 0 in
theorem run_1 (w : World) : Hd.Part row 9000 addrs facts1 defs1 w := by
  intro os
  kernel_rfl
theorem run (w : World) : HandSHeadRun.RunEq row (PySem.W.view row.prog [72]) hk ob 9000 names w :=
  Hd.run_of (run_looks w) (Hd.Part.app (run_0 w) (run_1 w))
end Hh
end

set_option Elab.async false
set_option linter.all false
set_option maxRecDepth 100000
set_option maxHeartbeats 2000000
namespace Ru
open PySem PySem.Spec PyProof.Rows L2

/-! ## a def of the module as a caller sees it -/
/-- the def called x is the module's, with body st -/
structure DefAt (K : PySem.W.Frag) (mg : Str → Option Value) (x : Str) (st : Stmt) (ps : List Str) : Prop where
  ex : ∃ f fd, mg x = some (.ref f) ∧ Fun K x x st f fd ∧ Binds K fd ps []
/-- the def called x keeps the promise sp -/
structure FnAt (P : Program) (w : World) (K : PySem.W.Frag) (mg : Str → Option Value) (base : Heap) (cx : CXT) (x : Str) (k : Nat) (ps : List Str) (sp : Sp) : Prop where
  ex : ∃ f fd, mg x = some (.ref f) ∧ PySem.W.keepIn K (.ref f) = true ∧ Binds K fd ps [] ∧ FnOk P w K mg base cx k f fd ps sp
theorem FnAt.mono {P : Program} {w : World} {K : PySem.W.Frag} {mg : Str → Option Value} {base : Heap} {cx : CXT} {x : Str} {j k : Nat} {ps : List Str} {sp : Sp} (F : FnAt P w K mg base cx x j ps sp) (h : j ≤ k) : FnAt P w K mg base cx x k ps sp := by
  obtain ⟨f, fd, h1, h2, h3, h4⟩ := F.ex
  exact ⟨f, fd, h1, h2, h3, h4.mono h⟩
theorem FnAt.imp {P : Program} {w : World} {K : PySem.W.Frag} {mg : Str → Option Value} {base : Heap} {cx : CXT} {x : Str} {k : Nat} {ps : List Str} {sp sp' : Sp} (F : FnAt P w K mg base cx x k ps sp) (h : ∀ vs H Q E, sp' vs H Q E → sp vs H Q E) : FnAt P w K mg base cx x k ps sp' := by
  obtain ⟨f, fd, h1, h2, h3, h4⟩ := F.ex
  exact ⟨f, fd, h1, h2, h3, h4.imp h⟩
section
variable {P : Program} {w : World} {K : PySem.W.Frag} {mg : Str → Option Value} {base : Heap}
theorem fnAt_ok {x : Str} {st : Stmt} {N ps : List Str} {k : Nat} {sp : Sp} (D : DefAt K mg x st ps) (S : FnScope N ps (defScope st)) (len : ∀ vs H Q E, sp vs H Q E → vs.length = ps.length)
    (hbody : ∀ (f : Addr) (cdv : Value) (A : Around) (outer : List Env) (s : Shared) (H : Hp) (vs : List V) (Q : VK) (E : XK), Room k (A.deeper (envOfC x (defScope st) s.heap.objs.size f cdv)) → sp vs H Q E →
      ∃ t, PSs (cxOf CX0 P w K mg base N x (defScope st) f cdv A outer s H E).nox (defBody st) t ∧ t { nx := fun _ H' => Q .non H', rt := Q } (start N vs) H) : FnAt P w K mg base CX0 x (k + 1) ps sp := by
  obtain ⟨f, fd, h1, h2, h3⟩ := D.ex
  exact ⟨f, fd, h1, h2.kp, h3, h2.ok S len (hbody f)⟩
theorem defAt_mk {h : Heap} {x : Str} {st : Stmt} {ps : List Str} {f : Addr} {oc : Value} {od an : Option Addr} {osl : Array (Option Value)} {kV doc pm cdv ct : Value} (X : K.In h) (G : h.Ns mainGlobals mg)
    (a : PySem.W.nsIn K mainGlobals x = some (some (.ref f))) (l : K.lookup f = some ⟨oc, od, .func (PySem.W.fnOf x x (defArgs st) (defBody st) (defScope st) .none kV doc pm an cdv ct), osl⟩)
    (c : PySem.W.codeIn K cdv x = true) (k : PySem.W.keepIn K (.ref f) = true)
    (b : ∀ us : List Value, us.length = ps.length → bindArgs (PySem.W.fnOf x x (defArgs st) (defBody st) (defScope st) .none kV doc pm an cdv ct) ⟨us, []⟩ = pure (ps.zip us)) : DefAt K mg x st ps :=
  ⟨f, _, PySem.W.mg_of X G a, fun_mk l c k, .all b⟩
end
section
variable {X : Cx} {cx : CXT} {j k : Nat} {ps : List Str} {sp : Sp} {E : XK} {x : Str} {p pos : Pos} {e : Expr} {es : List Expr} {t : TA}
theorem pe_callF (F : FnAt X.prog X.w X.K X.mg X.base cx x k ps sp) (hr : Room j X.A) (hx : Passes cx X E) (ha : PA X (e :: es) t) (hj : k ≤ j := by decide) (hg : Gl X x := by rfl)
    (hdb : (x == ("__debug__" : Str)) = false := by decide) (he : starEach (e :: es) X.env = (false, eval e X.env) :: starEach es X.env := by rfl) (hpl : (backTo pos (starEach es X.env)).any (·.1) = false := by rfl) :
    PE X (.Call (.Name x p) (e :: es) [] pos) (tCall sp [] E t) := by
  obtain ⟨f, fd, h1, h2, h3, h4⟩ := F.ex
  exact pe_call h4 (hr.mono hj) hg h1 h2 h3 .nil hx ha hdb he hpl
theorem pe_callF0 (F : FnAt X.prog X.w X.K X.mg X.base cx x k ps sp) (hr : Room j X.A) (hx : Passes cx X E) (hj : k ≤ j := by decide) (hg : Gl X x := by rfl)
    (hdb : (x == ("__debug__" : Str)) = false := by decide) : PE X (.Call (.Name x p) [] [] pos) (tCall sp [] E tNil) := by
  obtain ⟨f, fd, h1, h2, h3, h4⟩ := F.ex
  exact pe_call0 h4 (hr.mono hj) hg h1 h2 h3 .nil hx hdb
end

/-! ## constants of the module -/
/-- the module's name x holds the value v -/
def GlobC (mg : Str → Option Value) (x : Str) (v : V) : Prop := ∃ u, mg x = some u ∧ RelV v u
theorem pe_gc {X : Cx} {x : Str} {v : V} {pos : Pos} (h : GlobC X.mg x v) (hg : Gl X x := by rfl) (hd : (x == ("__debug__" : Str)) = false := by decide) : PE X (.Name x pos) (tC v) := by
  obtain ⟨u, h1, h2⟩ := h
  exact pe_glob hg h1 h2 hd
/-- a tuple that stands wherever one looks -/
def TupK (K : PySem.W.Frag) (a : Addr) (xs : List V) : Prop := ∀ H, SqT K H a xs
def GlobT (K : PySem.W.Frag) (mg : Str → Option Value) (x : Str) (xs : List V) : Prop := ∃ a, mg x = some (.ref a) ∧ TupK K a xs
def tGT (K : PySem.W.Frag) (xs : List V) : TE := fun _ H Q => ∀ a, TupK K a xs → Q (.ref a) H
theorem pe_gt {X : Cx} {x : Str} {xs : List V} {pos : Pos} (h : GlobT X.K X.mg x xs) (hg : Gl X x := by rfl) (hd : (x == ("__debug__" : Str)) = false := by decide) : PE X (.Name x pos) (tGT X.K xs) := by
  obtain ⟨a, h1, h2⟩ := h
  exact ⟨fun pins s σ H Q I q => (pe_glob (v := .ref a) hg h1 rfl hd).run pins s σ H Q I (q a h2)⟩
/-- what a written tuple's items are -/
def valsB : List V → List Value → Bool
  | [], [] => true
  | x :: xs, u :: us => (absV u == some x) && valsB xs us
  | _, _ => false
theorem relV_of_abs {x : V} {u : Value} (h : absV u = some x) : RelV x u := by
  cases u <;> simp [absV] at h <;> subst h <;> first | rfl | exact ⟨_, rfl⟩
theorem vals_of_B : ∀ {xs : List V} {us : List Value}, valsB xs us = true → Vals xs us
  | [], [], _ => .nil
  | x :: xs, u :: us, h => by
    unfold valsB at h
    rw [Bool.and_eq_true] at h
    exact .cons (relV_of_abs (by simpa using h.1)) (vals_of_B h.2)
  | [], _ :: _, h => by simp [valsB] at h
  | _ :: _, [], h => by simp [valsB] at h
theorem globT_mk {K : PySem.W.Frag} {mg : Str → Option Value} {h : Heap} {x : Str} {a : Addr} {n : Nat} {its : Array Value} {od : Option Addr} {sl : Array (Option Value)} {xs : List V} (X : K.In h) (G : h.Ns mainGlobals mg)
    (ha : PySem.W.nsIn K mainGlobals x = some (some (.ref a))) (l : K.lookup a = some ⟨.type "tuple", od, .seq its n, sl⟩) (hs : its.size ≤ sizeLine) (hv : Vals xs its.toList) : GlobT K mg x xs :=
  ⟨a, PySem.W.mg_of X G ha, fun _ => .inr ⟨_, its, n, l, rfl, rfl, hs, hv⟩⟩
theorem globC_mk {K : PySem.W.Frag} {mg : Str → Option Value} {h : Heap} {x : Str} {u : Value} {v : V} (X : K.In h) (G : h.Ns mainGlobals mg) (ha : PySem.W.nsIn K mainGlobals x = some (some u)) (r : RelV v u) : GlobC mg x v :=
  ⟨u, PySem.W.mg_of X G ha, r⟩

theorem pc_inK {X : Cx} {x : Str} {xs : List V} {a : Expr} {ta : TE} {pos : Pos} (h : GlobT X.K X.mg x xs) (ha : PE X a ta) (hg : Gl X x := by rfl) (hd : (x == ("__debug__" : Str)) = false := by decide) :
    PC X .In a (.Name x pos) (fun σ H Q => ta σ H fun v H1 => flatV v = true ∧ xs.all flatV = true ∧ Q (.bl (inV v xs)) H1) := by
  obtain ⟨b, h1, h2⟩ := h
  refine ⟨fun pins s σ H Q I q => ?_⟩
  refine bin (R := fun v u H2 => u = .ref b ∧ flatV v = true ∧ xs.all flatV = true ∧ Q (.bl (inV v xs)) H2) ha (pe_glob (v := .ref b) hg h1 rfl hd) I ?_ fun v u s2 x y H2 I2 rx ry q => ?_
  · refine (show ta σ H fun v H1 => (V.ref b = .ref b ∧ flatV v = true ∧ xs.all flatV = true ∧ Q (.bl (inV v xs)) H1) from ?_)
    have : (fun v H1 => flatV v = true ∧ xs.all flatV = true ∧ Q (.bl (inV v xs)) H1) = (fun (v : V) (H1 : Hp) => (V.ref b = .ref b ∧ flatV v = true ∧ xs.all flatV = true ∧ Q (.bl (inV v xs)) H1)) := by
      funext v H1
      simp
    rw [← this]
    exact q
  · obtain ⟨rfl, q1, q2, q3⟩ := q
    exact op_in_seq pins s2 σ H2 _ _ _ _ Q I2 rx ry ⟨b, xs, rfl, .inr (h2 H2), q1, q2, q3⟩
theorem pc_notInK {X : Cx} {x : Str} {xs : List V} {a : Expr} {ta : TE} {pos : Pos} (h : GlobT X.K X.mg x xs) (ha : PE X a ta) (hg : Gl X x := by rfl) (hd : (x == ("__debug__" : Str)) = false := by decide) :
    PC X .NotIn a (.Name x pos) (fun σ H Q => ta σ H fun v H1 => flatV v = true ∧ xs.all flatV = true ∧ Q (.bl (!inV v xs)) H1) := by
  obtain ⟨b, h1, h2⟩ := h
  refine ⟨fun pins s σ H Q I q => ?_⟩
  refine bin (R := fun v u H2 => u = .ref b ∧ flatV v = true ∧ xs.all flatV = true ∧ Q (.bl (!inV v xs)) H2) ha (pe_glob (v := .ref b) hg h1 rfl hd) I ?_ fun v u s2 x y H2 I2 rx ry q => ?_
  · refine (show ta σ H fun v H1 => (V.ref b = .ref b ∧ flatV v = true ∧ xs.all flatV = true ∧ Q (.bl (!inV v xs)) H1) from ?_)
    have : (fun v H1 => flatV v = true ∧ xs.all flatV = true ∧ Q (.bl (!inV v xs)) H1) = (fun (v : V) (H1 : Hp) => (V.ref b = .ref b ∧ flatV v = true ∧ xs.all flatV = true ∧ Q (.bl (!inV v xs)) H1)) := by
      funext v H1
      simp
    rw [← this]
    exact q
  · obtain ⟨rfl, q1, q2, q3⟩ := q
    exact op_notIn_seq pins s2 σ H2 _ _ _ _ Q I2 rx ry ⟨b, xs, rfl, .inr (h2 H2), q1, q2, q3⟩

/-! ## texts as lists of code points -/
def mkS (l : List Nat) : Str := ⟨l.toArray⟩
theorem mkS_len (l : List Nat) : (mkS l).length = l.length := by simp [mkS, Str.length]
theorem mkS_tl (z : Str) : mkS z.cps.toList = z := by simp [mkS]
theorem tl_mkS (l : List Nat) : (mkS l).cps.toList = l := by simp [mkS]
theorem mkS_inj {a b : List Nat} (h : mkS a = mkS b) : a = b := by rw [← tl_mkS a, ← tl_mkS b, h]
theorem mkS_app (a b : List Nat) : mkS a ++ mkS b = mkS (a ++ b) := by
  show Str.append _ _ = _
  simp [Str.append, mkS]
theorem empty_mk : ("" : Str) = mkS [] := by decide +kernel
theorem mkS_one (c : Nat) : (⟨#[c]⟩ : Str) = mkS [c] := rfl
theorem cutS_to (l : List Nat) (n : Nat) : cutS (mkS l) none (some (n : Int)) = mkS (l.take n) := by
  unfold cutS
  rw [HT.sIx_none, HT.sIx_nat, mkS_len, tl_mkS]
  show mkS _ = _
  congr 1
  rw [List.drop_zero, Nat.sub_zero]
  by_cases h : n ≤ l.length
  · rw [Nat.min_eq_left h]
  · rw [Nat.min_eq_right (by omega), List.take_of_length_le (Nat.le_refl _), List.take_of_length_le (by omega)]
theorem cutS_from (l : List Nat) (n : Nat) : cutS (mkS l) (some (n : Int)) none = mkS (l.drop n) := by
  unfold cutS
  rw [HT.sIx_none, HT.sIx_nat, mkS_len, tl_mkS]
  show mkS _ = _
  congr 1
  by_cases h : n ≤ l.length
  · rw [Nat.min_eq_left h, List.take_of_length_le (by rw [List.length_drop]; omega)]
  · rw [Nat.min_eq_right (by omega), List.drop_of_length_le (Nat.le_refl _), List.drop_of_length_le (by omega)]
    simp
theorem cutS_le (z : Str) (lo hi : Option Int) : (cutS z lo hi).length ≤ z.length := by
  unfold cutS Str.length
  simp only [List.size_toArray, List.length_take, List.length_drop, Array.length_toList]
  omega
theorem len_app (x y : Str) : (x ++ y).length = x.length + y.length := strLen_append x y
/-- the item at an int's place -/
theorem atI_int {α : Type} {xs : List α} {i : Int} {v : α} (h0 : 0 ≤ i) (h : xs[i.toNat]? = some v) : atI xs i = some v := by
  obtain ⟨n, rfl⟩ := Int.eq_ofNat_of_zero_le h0
  exact atI_nat h

theorem atI_ex {α : Type} {xs : List α} {i : Int} (h0 : 0 ≤ i) (h : i < xs.length) : ∃ v, v ∈ xs ∧ atI xs i = some v := by
  have hn : i.toNat < xs.length := by omega
  exact ⟨xs[i.toNat], List.getElem_mem hn, atI_int h0 (List.getElem?_eq_getElem hn)⟩
theorem line_ge {n : Nat} (h : n ≤ 1000000) : n ≤ sizeLine := by rw [sizeLine_eq]; omega
/-- the law's def, and how its one argument binds -/
structure LawAt (K : PySem.W.Frag) (mg : Str → Option Value) (st : Stmt) (p : Str) : Prop where
  ex : ∃ f fd, mg "law" = some (.ref f) ∧ Fun K "law" "law" st f fd ∧ ∀ u : Value, bindArgs fd ⟨[u], []⟩ = pure [(p, u)]
theorem lawAt_mk {K : PySem.W.Frag} {mg : Str → Option Value} {h : Heap} {st : Stmt} {p : Str} {f : Addr} {oc : Value} {od an : Option Addr} {osl : Array (Option Value)} {kV doc pm cdv ct : Value} (X : K.In h) (G : h.Ns mainGlobals mg)
    (a : PySem.W.nsIn K mainGlobals "law" = some (some (.ref f))) (l : K.lookup f = some ⟨oc, od, .func (PySem.W.fnOf "law" "law" (defArgs st) (defBody st) (defScope st) .none kV doc pm an cdv ct), osl⟩)
    (c : PySem.W.codeIn K cdv "law" = true) (k : PySem.W.keepIn K (.ref f) = true)
    (b : ∀ u : Value, bindArgs (PySem.W.fnOf "law" "law" (defArgs st) (defBody st) (defScope st) .none kV doc pm an cdv ct) ⟨[u], []⟩ = pure [(p, u)]) : LawAt K mg st p :=
  ⟨f, _, PySem.W.mg_of X G a, fun_mk l c k, b⟩
theorem law_end {prog : Program} {w : World} {K : PySem.W.Frag} {mg : Str → Option Value} {st : Stmt} {p : Str} {fa : Addr} {cx : CXT} {k : Nat} {sp : Sp} (L : LawAt K mg st p) (hfa : mg "law" = some (.ref fa))
    (ok : ∀ (base : Heap) (f : Addr) (fd : FuncData), Fun K "law" "law" st f fd → FnOk prog w K mg base cx k f fd [p] sp) :
    ∃ fd : FuncData, (∀ (s : Shared) (u : Value), BindsTo s fd ⟨[u], []⟩ [(p, u)]) ∧ ∀ base : Heap, K.In base → base.Ns mainGlobals mg → FnOk prog w K mg base cx k fa fd [p] sp := by
  obtain ⟨f, fd, h1, h2, h3⟩ := L.ex
  have e : f = fa := by
    have := h1.symm.trans hfa
    injection this with e
    injection e
  subst e
  exact ⟨fd, fun s u => .of_eq (h3 u), fun base _ _ => ok base f fd h2⟩
/-- what is promised of a law: True, whatever stands -/
def spLaw (K : PySem.W.Frag) : Sp := fun vs H Q _ => ∃ (a : Addr) (ns : List Int), vs = [.ref a] ∧ SqL K H a (ns.map V.int) ∧ ns.length ≤ 63 ∧ ∀ H', Q (.bl true) H'
theorem law_walk {l : PySem.W.OpenLaw} {q : Program} {loose : List Str} {XP : (Str → Option Value) → Heap → Prop} {YP : World → Heap → Prop} {d : DefRec} {K : Params → PySem.W.Frag} {cx : CXT} {k : Nat} {p : Str} (hr : Room k callerA) (hn : l.most = some 63) (hdf : d.params.defaults = [])
    (hY : ∀ (w : World) (h : Heap), YP w h → (K w.params).In h) (hcx : ∀ (H : Hp) (s : Shared) (e : Value) (s' : Shared), cx [] H s (fun _ _ _ => False) e s' → False)
    (F : ∀ (w : World) (mg : Str → Option Value) (fa : Addr) (h : Heap), (K w.params).In h → h.Ns mainGlobals mg → mg d.name = some (.ref fa) →
      ∃ fd : FuncData, (∀ (s : Shared) (u : Value), BindsTo s fd ⟨[u], []⟩ [(p, u)]) ∧ ∀ base : Heap, (K w.params).In base → base.Ns mainGlobals mg → FnOk l.prog w (K w.params) mg base cx k fa fd [p] (spLaw (K w.params))) :
    PySem.W.WalkO q loose XP YP l.row.toRowW d [] (fun f vs => PySem.call f vs) :=
  L2.walk_of (n := 63) (k := k) (x := p) (CX := fun _ => cx) (sp := fun w => spLaw (K w.params)) hn (by decide) hdf hr hY F (fun _ _ a ns hl _ hS => ⟨a, ns, rfl, hS, hl, fun _ => rfl⟩) fun _ H s e s' z => hcx H s e s' z

/-! ## isinstance of flat values and bool, int, str -/
def isBlV : V → Bool
  | .bl _ => true
  | _ => false
def isIntV : V → Bool
  | .bl _ => true
  | .int _ => true
  | _ => false
def isStrV : V → Bool
  | .str _ => true
  | _ => false
theorem scal_ii {a b : Int} : scal (.int a) (.int b) = true := rfl
theorem scal_bb {a b : Bool} : scal (.bl a) (.bl b) = true := rfl
theorem scal_ss {a b : Str} : scal (.str a) (.str b) = true := rfl
theorem scal_sb {a : Str} {b : Bool} : scal (.str a) (.bl b) = true := rfl
theorem scal_bs {a : Str} {b : Bool} : scal (.bl b) (.str a) = true := rfl
theorem flat_s {z : Str} : flatV (.str z) = true := rfl
theorem flat_i {z : Int} : flatV (.int z) = true := rfl
theorem flat_b {z : Bool} : flatV (.bl z) = true := rfl
theorem flat_n : flatV .non = true := rfl
def rIsF (n : String) (f : V → Bool) : List V → Hp → VK → Prop := fun xs H Q => ∃ x, xs = [x, .ty n] ∧ flatV x = true ∧ Q (.bl (f x)) H
theorem call_isF {X : Cx} {n : String} {f : V → Bool} (hn : kitB "NoneType" n = some (f .non)) (hb : ∀ b, kitB "bool" n = some (f (.bl b))) (hi : ∀ i, kitB "int" n = some (f (.int i))) (hs : ∀ z, kitB "str" n = some (f (.str z))) :
    CallR X (.builtin "isinstance") (rIsF n f) := by
  intro pins s σ H xs us Q I r h
  obtain ⟨x, rfl, fx, q⟩ := h
  refine call_isi pins s σ H _ us Q I r ?_
  cases x with
  | non => exact ⟨_, _, _, _, _, rfl, .ty n, .base (.non), kit_ty hn, q⟩
  | bl b => exact ⟨_, _, _, _, _, rfl, .ty n, .base (.bl b), kit_ty (hb b), q⟩
  | int i => exact ⟨_, _, _, _, _, rfl, .ty n, .base (.int i), kit_ty (hi i), q⟩
  | str z => exact ⟨_, _, _, _, _, rfl, .ty n, .base (.str z), kit_ty (hs z), q⟩
  | byt b => cases fx
  | flt b => cases fx
  | ref a => cases fx
  | ty a => cases fx
theorem call_isBool {X : Cx} : CallR X (.builtin "isinstance") (rIsF "bool" isBlV) :=
  call_isF (by decide +kernel) (fun _ => (by decide +kernel : kitB "bool" "bool" = some true)) (fun _ => (by decide +kernel : kitB "int" "bool" = some false)) fun _ => (by decide +kernel : kitB "str" "bool" = some false)
theorem call_isInt {X : Cx} : CallR X (.builtin "isinstance") (rIsF "int" isIntV) :=
  call_isF (by decide +kernel) (fun _ => (by decide +kernel : kitB "bool" "int" = some true)) (fun _ => (by decide +kernel : kitB "int" "int" = some true)) fun _ => (by decide +kernel : kitB "str" "int" = some false)

theorem Same.new {H : Hp} {p : Addr} {o : HO} (h : H p = none) : Same H (upd H p o) := fun b u e => by
  rw [upd_ne (ne_of_none e h)]
  exact e
/-- a store to what H does not know -/
theorem Same.mut {H H' : Hp} {p : Addr} {o : HO} (s : Same H H') (h : H p = none) : Same H (upd H' p o) := fun b u e => by
  rw [upd_ne (ne_of_none e h)]
  exact s b u e
theorem Same.seqT {K : PySem.W.Frag} {H H' : Hp} {a : Addr} {xs : List V} (e : Same H H') (h : SqT K H a xs) : SqT K H' a xs := by
  rcases h with (h | ⟨o, h⟩) | h
  · exact .inl (.inl (e _ _ h))
  · exact .inl (.inr ⟨o, e _ _ h⟩)
  · exact .inr h
/-- [..] == [] of an empty list -/
theorem ne_empty {K : PySem.W.Frag} {H : Hp} {a b : Addr} {Q : VK} (ha : SqL K H a []) (hb : SqL K H b []) (q : Q (.bl false) H) : rNeD K (.ref a) (.ref b) H Q :=
  ⟨.list [], .list [], .lst ha .nil, .lst hb .nil, by decide +kernel, by decide +kernel, q⟩

/-! ## one's own short ways -/
abbrev St : Type := L2.St
theorem exw {α : Type} {P : α → Prop} {a : α} (h : P a) : ∃ x, P x := ⟨a, h⟩
/-- for over a text that the body leaves as it is -/
theorem for_str {x : Str} {g : TG} {tb : TS} {D : Ends} {σ : St} {H : Hp} (Pv : Nat → St → Hp → Prop) (h0 : Pv 0 σ H)
    (hs : ∀ i c σ H, x.cps[i]? = some c → Pv i σ H → g (.str ⟨#[c]⟩) σ H fun σ2 H2 => tb { D with nx := Pv (i + 1), ct := Pv (i + 1), bk := D.nx } σ2 H2) (hd : ∀ σ H, Pv x.cps.size σ H → D.nx σ H) :
    ∃ W : Nat → Nat → St → Hp → Prop, (∃ m, W 0 m σ H) ∧ ∀ i m σ H, W i m σ H →
      ((Its x).stop i H ∧ D.nx σ H) ∨ ((Its x).go i H ∧ ∃ N : St → Hp → Prop, (∀ σ' H', N σ' H' → ∃ m', m' < m ∧ W (i + 1) m' σ' H') ∧ ∀ v H', (Its x).yld i H v H' → g v σ H' fun σ2 H2 => tb { D with nx := N, ct := N, bk := D.nx } σ2 H2) := by
  refine ⟨fun i m σ H => m = x.cps.size - i ∧ i ≤ x.cps.size ∧ Pv i σ H, ⟨x.cps.size, by simp, Nat.zero_le _, h0⟩, ?_⟩
  rintro i m σ H ⟨rfl, hi, p⟩
  by_cases hlt : i < x.cps.size
  · refine .inr ⟨hlt, Pv (i + 1), fun σ' H' p' => ⟨x.cps.size - (i + 1), by omega, rfl, hlt, p'⟩, fun v H' y => ?_⟩
    obtain ⟨e, c, hc, y⟩ := y
    subst e y
    exact hs i c σ _ hc p
  · have e : i = x.cps.size := by omega
    subst e
    exact .inl ⟨Nat.le_refl _, hd σ H p⟩
theorem gcons_eq {t : TG} {u : TGs} {v : V} {r : List V} {σ : L2.St} {H : Hp} {Q : L2.St → Hp → Prop} : gCons t u (v :: r) σ H Q ↔ t v σ H fun σ' H' => u r σ' H' Q :=
  ⟨fun ⟨_, _, e, q⟩ => by cases e; exact q, fun q => ⟨v, r, rfl, q⟩⟩
theorem gnil_eq {σ : L2.St} {H : Hp} {Q : L2.St → Hp → Prop} : gNil [] σ H Q ↔ Q σ H := ⟨fun ⟨_, q⟩ => q, fun q => ⟨rfl, q⟩⟩
theorem cxOf_K {CX : CXT} {P : Program} {w : World} {K : PySem.W.Frag} {mg : Str → Option Value} {base : Heap} {N : List Str} {q : Str} {sc : Scope} {f : Addr} {cd : Value} {A : Around} {outer : List Env} {s : Shared} {H : Hp} {E : XK} :
    (cxOf CX P w K mg base N q sc f cd A outer s H E).K = K := rfl
end Ru

set_option Elab.async false
set_option linter.all false
set_option maxRecDepth 100000
set_option maxHeartbeats 2000000
/-! objects: methods by the receiver's class, tuple(d.keys()), xs != [] of any list -/
namespace Ru
open PySem PySem.Spec PyProof.Rows L2
abbrev St' : Type := L2.St

/-! ## methods by class -/
structure DispAt (P : Program) (w : World) (K : PySem.W.Frag) (mg : Str → Option Value) (base : Heap) (cx : CXT) (T : Addr → Prop) (m : Str) (k : Nat) (ps : List Str) (sp : Addr → Sp) : Prop where
  ex : ∀ C, T C → ∃ f fd, Cls K C ∧ Meth K C m f ∧ Binds K fd ps [] ∧ FnOk P w K mg base cx k f fd ps (sp C)
theorem DispAt.mono {P : Program} {w : World} {K : PySem.W.Frag} {mg : Str → Option Value} {base : Heap} {cx : CXT} {T : Addr → Prop} {m : Str} {j k : Nat} {ps : List Str} {sp : Addr → Sp} (D : DispAt P w K mg base cx T m j ps sp) (h : j ≤ k) : DispAt P w K mg base cx T m k ps sp :=
  ⟨fun C t => let ⟨f, fd, h1, h2, h3, h4⟩ := D.ex C t; ⟨f, fd, h1, h2, h3, h4.mono h⟩⟩
theorem DispAt.imp {P : Program} {w : World} {K : PySem.W.Frag} {mg : Str → Option Value} {base : Heap} {cx : CXT} {T : Addr → Prop} {m : Str} {k : Nat} {ps : List Str} {sp sp' : Addr → Sp} (D : DispAt P w K mg base cx T m k ps sp) (h : ∀ C vs H Q E, T C → sp' C vs H Q E → sp C vs H Q E) : DispAt P w K mg base cx T m k ps sp' :=
  ⟨fun C t => let ⟨f, fd, h1, h2, h3, h4⟩ := D.ex C t; ⟨f, fd, h1, h2, h3, h4.imp fun vs H Q E => h C vs H Q E t⟩⟩
/-- o.m(..), o an instance of one of the classes T -/
def tMethD (T : Addr → Prop) (m : Str) (sp : Addr → Sp) (E : XK) (ta : TE) (t : TA) : TE := fun σ H Q => ta σ H fun x H1 => ∃ a C dx fs, x = .ref a ∧ H1 a = some (.ins C dx fs) ∧ T C ∧ fs.lookup m = none ∧
  t σ H1 fun vs H2 => sp C (x :: vs) H2 Q E
section
variable {X : Cx} {cx : CXT} {j k : Nat} {ps : List Str} {sp : Addr → Sp} {E : XK} {T : Addr → Prop} {m : Str} {p pos apos : Pos} {e o : Expr} {es : List Expr} {ta : TE} {t : TA}
theorem pe_methD {pl : Sem Bool} (D : DispAt X.prog X.w X.K X.mg X.base cx T m k ps sp) (hr : Room j X.A) (hx : Passes cx X E) (he : PE X o ta) (ha : PA X (e :: es) t) (hj : k ≤ j := by decide)
    (hst : starEach (e :: es) X.env = (false, eval e X.env) :: starEach es X.env := by rfl) (hpl : (backTo pos (starEach es X.env)).any (·.1) = false := by rfl)
    (ht : eval (.Call (.Attribute o m apos) (e :: es) [] pos) X.env = (do
      let ov ← eval o X.env
      standAt apos.atName
      let (f, first) ← holding [ov] (getMethod ov m pl)
      callWith pos f first (backTo pos (starEach (e :: es) X.env)) (backToKw pos (keywordEach [] X.env))) := by rfl) :
    PE X (.Call (.Attribute o m apos) (e :: es) [] pos) (tMethD T m sp E ta t) := by
  refine ⟨fun pins s σ H Q I h => ?_⟩
  refine PySem.W.methodCall_KW (pl := pl) (thn (he.run pins s σ H _ I h) fun u s1 ⟨x, H1, I1, rx, a, C, dx, fs, ex, ea, tc, l, q⟩ => ?_) ht
  subst ex
  obtain rfl : u = Value.ref a := rx
  obtain ⟨f, fd, c, hm, hb, F⟩ := D.ex C tc
  refine getmeth_ok I1 ea c hm l ?_
  refine PySem.W.callWith_K (first := [.ref a]) (h₀ := X.base) I.ok.mod.kin hm.kp (thn (ha.run pos pins s1 σ H1 _ I1 q) fun us s2 ⟨vs, H2, I2, r, q2⟩ => ⟨I2.kIn, ?_⟩) hst hpl
  exact run_fn (us := .ref a :: us) (vs := .ref a :: vs) (dvs := []) (ds := []) F (hr.mono hj) hb .nil hx I2 (.cons rfl r) (by rw [List.append_nil]; exact q2)
theorem pe_methD0 {pl : Sem Bool} (D : DispAt X.prog X.w X.K X.mg X.base cx T m k ps sp) (hr : Room j X.A) (hx : Passes cx X E) (he : PE X o ta) (hj : k ≤ j := by decide)
    (ht : eval (.Call (.Attribute o m apos) [] [] pos) X.env = (do
      let ov ← eval o X.env
      standAt apos.atName
      let (f, first) ← holding [ov] (getMethod ov m pl)
      callWith pos f first (backTo pos (starEach [] X.env)) (backToKw pos (keywordEach [] X.env))) := by rfl) :
    PE X (.Call (.Attribute o m apos) [] [] pos) (tMethD T m sp E ta tNil) := by
  refine ⟨fun pins s σ H Q I h => ?_⟩
  refine PySem.W.methodCall_KW (pl := pl) (thn (he.run pins s σ H _ I h) fun u s1 ⟨x, H1, I1, rx, a, C, dx, fs, ex, ea, tc, l, q⟩ => ?_) ht
  subst ex
  obtain rfl : u = Value.ref a := rx
  obtain ⟨f, fd, c, hm, hb, F⟩ := D.ex C tc
  refine getmeth_ok I1 ea c hm l ?_
  refine PySem.W.callWith_K0 (first := [.ref a]) I1.kIn hm.kp ?_
  exact run_fn (us := [.ref a]) (vs := [.ref a]) (dvs := []) (ds := []) F (hr.mono hj) hb .nil hx I1 (.cons rfl .nil) q
end
/-- a method of the class at C, as the text has it -/
structure MethAt (K : PySem.W.Frag) (C : Addr) (m qual : Str) (st : Stmt) (ps : List Str) : Prop where
  ex : ∃ f fd, Meth K C m f ∧ Fun K m qual st f fd ∧ Binds K fd ps []
theorem methAt_mk {K : PySem.W.Frag} {C : Addr} {m qual : Str} {st : Stmt} {ps : List Str} {f : Addr} {oc : Value} {od an : Option Addr} {osl : Array (Option Value)} {kV doc pm cdv ct : Value}
    (a : PySem.W.findIn K (.ref C) m = some (some (.ref f))) (i : PySem.W.isFn K (.ref f) = true) (l : K.lookup f = some ⟨oc, od, .func (PySem.W.fnOf m qual (defArgs st) (defBody st) (defScope st) .none kV doc pm an cdv ct), osl⟩)
    (c : PySem.W.codeIn K cdv qual = true) (k : PySem.W.keepIn K (.ref f) = true)
    (b : ∀ us : List Value, us.length = ps.length → bindArgs (PySem.W.fnOf m qual (defArgs st) (defBody st) (defScope st) .none kV doc pm an cdv ct) ⟨us, []⟩ = pure (ps.zip us)) : MethAt K C m qual st ps :=
  ⟨f, _, ⟨a, i, k⟩, fun_mk l c k, .all b⟩
theorem methAt_ok {P : Program} {w : World} {K : PySem.W.Frag} {mg : Str → Option Value} {base : Heap} {C : Addr} {m qual : Str} {st : Stmt} {N ps : List Str} {k : Nat} {sp : Sp} (c : Cls K C) (D : MethAt K C m qual st ps) (S : FnScope N ps (defScope st)) (len : ∀ vs H Q E, sp vs H Q E → vs.length = ps.length)
    (hbody : ∀ (f : Addr) (cdv : Value) (A : Around) (outer : List Env) (s : Shared) (H : Hp) (vs : List V) (Q : VK) (E : XK), Room k (A.deeper (envOfC qual (defScope st) s.heap.objs.size f cdv)) → sp vs H Q E →
      ∃ t, PSs (cxOf CX0 P w K mg base N qual (defScope st) f cdv A outer s H E).nox (defBody st) t ∧ t { nx := fun _ H' => Q .non H', rt := Q } (start N vs) H) :
    ∃ f fd, Cls K C ∧ Meth K C m f ∧ Binds K fd ps [] ∧ FnOk P w K mg base CX0 (k + 1) f fd ps sp := by
  obtain ⟨f, fd, h1, h2, h3⟩ := D.ex
  exact ⟨f, fd, c, h1, h3, h2.ok S len (hbody f)⟩
/-- what is asked of an own class -/
structure ClsAt (K : PySem.W.Frag) (mg : Str → Option Value) (x : Str) (C : Addr) : Prop where
  mg_ : mg x = some (.ref C)
  cl : Cls K C
  ha : PySem.W.findIn K (.ref C) "__class__" = some (some (.builtin "object.__class__"))
  hn : PySem.W.specialIn K (.builtin "object.__class__") "__get__" = some (some (.builtin "getset_descriptor.__get__"))
  htk : PySem.W.takesIn K (.builtin "object.__class__") = some true
  hm : PySem.W.mroIn K C (.type "object") = some true
  mkg : PySem.W.makesIn K C = true
  kp : PySem.W.keepIn K (.ref C) = true
theorem clsAt_mk {K : PySem.W.Frag} {mg : Str → Option Value} {h : Heap} {x : Str} {C : Addr} (X : K.In h) (G : h.Ns mainGlobals mg) (a : PySem.W.nsIn K mainGlobals x = some (some (.ref C)))
    (pg : PySem.W.plainGet K C Str.empty = true) (hd : PySem.W.hasDictIn K C = true) (po : PySem.W.plainOver K C = true) (sa : PySem.W.findIn K (.ref C) "__setattr__" = some (some (.builtin "object.__setattr__")))
    (ha : PySem.W.findIn K (.ref C) "__class__" = some (some (.builtin "object.__class__"))) (hn : PySem.W.specialIn K (.builtin "object.__class__") "__get__" = some (some (.builtin "getset_descriptor.__get__")))
    (htk : PySem.W.takesIn K (.builtin "object.__class__") = some true) (hm : PySem.W.mroIn K C (.type "object") = some true) (mk : PySem.W.makesIn K C = true) (kp : PySem.W.keepIn K (.ref C) = true) : ClsAt K mg x C :=
  ⟨PySem.W.mg_of X G a, ⟨pg, hd, po, sa⟩, ha, hn, htk, hm, mk, kp⟩
/-- a new instance of the class called x -/
structure MakAt (P : Program) (w : World) (K : PySem.W.Frag) (mg : Str → Option Value) (base : Heap) (cx : CXT) (x : Str) (C : Addr) (k : Nat) (ps : List Str) (sp : Sp) : Prop where
  ex : ∃ f fd, mg x = some (.ref C) ∧ Mk K C f ∧ Binds K fd ps [] ∧ FnOk P w K mg base cx k f fd ps sp
theorem makAt_of {P : Program} {w : World} {K : PySem.W.Frag} {mg : Str → Option Value} {base : Heap} {cx : CXT} {x : Str} {C : Addr} {k : Nat} {ps : List Str} {sp : Sp} (c : ClsAt K mg x C)
    (h : ∃ f fd, Cls K C ∧ Meth K C "__init__" f ∧ Binds K fd ps [] ∧ FnOk P w K mg base cx k f fd ps sp) : MakAt P w K mg base cx x C k ps sp := by
  obtain ⟨f, fd, _, h1, h2, h3⟩ := h
  exact ⟨f, fd, c.mg_, ⟨c.mkg, h1.at_, h1.fn, c.kp⟩, h2, h3⟩
section
variable {X : Cx} {cx : CXT} {j k : Nat} {ps : List Str} {sp : Sp} {E : XK} {x : Str} {C : Addr} {p pos : Pos} {e : Expr} {es : List Expr} {t : TA}
theorem pe_makeF (M : MakAt X.prog X.w X.K X.mg X.base cx x C k ps sp) (hr : Room j X.A) (hx : Passes cx X E) (ha : PA X (e :: es) t) (hj : k + 1 ≤ j := by decide) (hg : Gl X x := by rfl)
    (hdb : (x == ("__debug__" : Str)) = false := by decide) (he : starEach (e :: es) X.env = (false, eval e X.env) :: starEach es X.env := by rfl) (hpl : (backTo pos (starEach es X.env)).any (·.1) = false := by rfl) :
    PE X (.Call (.Name x p) (e :: es) [] pos) (tMake C sp [] E t) := by
  obtain ⟨f, fd, h1, h2, h3, h4⟩ := M.ex
  exact pe_make h2 h4 (hr.mono hj) hg h1 h3 .nil hx ha hdb he hpl
end

/-! ## isinstance(x, C), C one of one's own classes -/
theorem pe_cls {X : Cx} {x : Str} {C : Addr} {pos : Pos} (h : ClsAt X.K X.mg x C) (hg : Gl X x := by rfl) (hd : (x == ("__debug__" : Str)) = false := by decide) : PE X (.Name x pos) (tC (.ref C)) := pe_glob hg h.mg_ rfl hd
/-- the answer, by the receiver's class -/
def rIsO (K : PySem.W.Frag) (D : Addr) (T : Addr → Bool → Prop) : List V → Hp → VK → Prop := fun xs H Q => ∃ a C dx fs b, xs = [.ref a, .ref D] ∧ H a = some (.ins C dx fs) ∧ T C b ∧ Q (.bl b) H
/-- for each class C that may come: what it says, and isinstance's answer -/
def IsT (K : PySem.W.Frag) (D : Addr) (T : Addr → Bool → Prop) : Prop := ∀ C b, T C b → (∃ mg x, ClsAt K mg x C) ∧ PySem.W.kitOne K (.ref C) (.ref D) = some b
theorem call_isO {X : Cx} {D : Addr} {T : Addr → Bool → Prop} (h : IsT X.K D T) : CallR X (.builtin "isinstance") (rIsO X.K D T) := by
  intro pins s σ H xs us Q I r hq
  obtain ⟨a, C, dx, fs, b, rfl, ha, t, q⟩ := hq
  obtain ⟨⟨mg, x, c⟩, e⟩ := h C b t
  obtain ⟨u, w', rfl, ru, rw'⟩ := vals2 r
  cases rw'
  exact isinst_ok I ru (TyOf.ins ha c.cl c.ha c.hn c.htk c.hm) e fun tk => ⟨.bl b, H, I.tok _, rfl, q⟩

/-! ## tuple(d.keys()) -/
section
open PySem.W (KdlSrc kdu_collect KdlKeysView)
variable {prog : Program} {w : World} {A : Around} {E : Value → Shared → Prop} {s : Shared} {T : String} {r d : Addr} {n : Nat} {P : Nat → Value → Prop} {OK : Heap → Prop}
theorem code_tuple_new_kdl {Q₁ : Value → Shared → Prop} (K : KdlSrc prog w T r d n P OK) (hh : A.handled = none) (hok : OK s.heap) (hn : n ≤ sizeLine)
    (h : ∀ (h' : Heap) (tk : Nat) (acc : Array Value), (∀ b o, s.heap.get? b = some o → h'.get? b = some o) → ItemsOf P acc n →
      Q₁ (.ref h'.objs.size) { s with heap := h'.push { cls := .type "tuple", data := .seq acc }, toks := tk }) :
    codeAny (model prog w) A (.call (.builtin "tuple.__new__") ⟨[.type "tuple", .ref r], []⟩) (wants Q₁ E) s := by
  refine codeAny_of_tree ?_
  show wpAny _ A.in1 (do checkBuiltinCall "tuple.__new__" ⟨[.type "tuple", .ref r], []⟩; again (.builtin "tuple.__new__" ⟨[.type "tuple", .ref r], []⟩)) _ _ s
  refine wpAny_bind (wpAny_of_eq (F.newCall_tuple_1 _) (wpAny_pure ⟨plainId_quiet F.plain_tuple_new _, codeAny_builtin F.entry_tuple_new ?_⟩))
  rw [Around.under_plainId F.plain_tuple_new _]
  have hsub := sub_tuple_self
  have hinit := init_tuple_lookup
  have hmh := madeHere_tuple
  have hTI : s.TypeIs (.ref r) T := K.type s hok
  have hh1 : A.in1.handled = none := hh
  have hnt := K.notTuple
  wp_walk using wpAny_typeOf hTI, kdu_collect (A := A.in1) K hh1 hok hn
  intro h' tk acc hk hacc
  show wpAny _ _ (Builtin.Tuple.tupleExact acc.toList.toArray >>= fun v => ret v) _ _ _
  unfold Builtin.Tuple.tupleExact
  refine wpAny_bind (wpAny_newObj_type ?_ (by show acc.toList.toArray.size ≤ sizeLine; simp only [Array.toArray_toList]; rw [hacc.1]; exact hn))
  refine wpAny_pure ?_
  have e : acc.toList.toArray = acc := by simp
  rw [e]
  exact h h' tk acc hk hacc
theorem call_tuple_kdl {Q : Value → Shared → Prop} (K : KdlSrc prog w T r d n P OK) (hh : A.handled = none) (hok : OK s.heap) (hn : n ≤ sizeLine)
    (hQ : ∀ (h' : Heap) (tk : Nat) (acc : Array Value), (∀ b o, s.heap.get? b = some o → h'.get? b = some o) → ItemsOf P acc n →
      Q (.ref h'.objs.size) { s with heap := h'.push { cls := .type "tuple", data := .seq acc }, toks := tk }) :
    wpAny (model prog w) A (call (.type "tuple") [.ref r]) Q E s := by
  refine callType_codes (Q₁ := fun obj s₁ => s₁.TypeIs obj "tuple" ∧ Q obj s₁) F.called_tuple (F.typeCall_tuple_1 _) F.entry_object_init
    (code_tuple_new_kdl (A := A.in1) K hh hok hn fun h' tk acc hk hacc => ⟨⟨_, Heap.get?_push_size _ rfl, rfl⟩, hQ h' tk acc hk hacc⟩) fun obj s₁ h₁ => ?_
  exact ⟨h₁.1, F.args_object_init_2 obj _, object_init_meets F.called_tuple.init.lookup F.called_tuple.made (by decide) prog w A.in1 _ s₁ ⟨h₁.1, rfl, h₁.2⟩⟩
end
def tTupKeys (td : TE) : TE := fun σ H Q => td σ H fun x H1 => ∃ d kvs, x = .ref d ∧ H1 d = some (.dK kvs) ∧ ∀ q, H1 q = none → Q (.ref q) (upd H1 q (.tup (kvs.map fun kv => kV kv.1)))
theorem pe_tupKeys {X : Cx} {e : Expr} {td : TE} {p pos apos cpos : Pos} (hm : X.mg "tuple" = none) (he : PE X e td) (hc : X.calm = true := by rfl) (hg : Gl X "tuple" := by rfl) (hbase : attributeBase e "keys" X.env (eval e X.env) = eval e X.env := by rfl) (hline : (apos.endLine == cpos.line) = true := by rfl)
    (na : starEach [.Call (.Attribute e "keys" apos) [] [] cpos] X.env = (false, eval (.Call (.Attribute e "keys" apos) [] [] cpos) X.env) :: starEach [] X.env := by rfl) :
    PE X (.Call (.Name "tuple" p) [.Call (.Attribute e "keys" apos) [] [] cpos] [] pos) (tTupKeys td) := by
  refine ⟨fun pins s σ H Q I h => ?_⟩
  refine Call_ (ld_blt I hg hm boot_tuple (PyProof.Rows.callWith_type1 (args_cons ?_ na) na))
  refine wpAny_Call_method (T := "dict") (id := "dict.keys") hbase rfl hline F.plainAttrs_dict F.slot_dict_keys F.type_dict_keys (thn (he.run pins s σ H _ I h) fun u s1 ⟨x, H1, I1, rx, d, kvs, ex, hd, q⟩ => ?_)
  subst ex
  obtain rfl : u = Value.ref d := rx
  obtain ⟨z, lo, vs, rk, hdt⟩ := (show ObjOk X.prog X.w H1 s1.heap d (.dK kvs) from I1.hok d _ hd)
  obtain ⟨ep, hat⟩ := hdt.dictAt
  have hl : kvs.length = vs.length := Paired.length rk
  refine ⟨hat.dictOf.typeIs, hat.dictOf.mapOf.noDict, ?_⟩
  have k2 : ∀ b o, s1.heap.get? b = some o → (s1.heap.push { cls := .type "dict_keys", data := .fields #[.ref d] }).get? b = some o := fun b ob q => Heap.get?_push_of_some _ q
  have I2 : Inv X pins σ H1 { s1 with heap := s1.heap.push { cls := .type "dict_keys", data := .fields #[.ref d] } } := I1.kept (t' := s1.toks) k2
  have view : PySem.W.KdlKeysView (s1.heap.push { cls := .type "dict_keys", data := .fields #[.ref d] }) s1.heap.objs.size d := ⟨_, Heap.get?_push_size _ rfl, rfl, rfl⟩
  have fin : wpAny (model X.prog X.w) X.A (call (.type "tuple") [.ref s1.heap.objs.size]) (EP X pins σ Q) X.xe { s1 with heap := s1.heap.push { cls := .type "dict_keys", data := .fields #[.ref d] } } := by
    refine call_tuple_kdl (PySem.W.kdl_keys (knd := mixKind X.prog X.w) (kvs := vs) (ep := ep) (d := d)) (I1.ok.hd hc) ⟨view, hat.push _⟩ (by rw [← hl]; exact z) fun h' tk acc hk hacc => ?_
    have I3 : Inv X pins σ H1 { s1 with heap := h', toks := tk } := I2.kept (h' := h') (t' := tk) hk
    have el : acc.toList.length = acc.size := by simp
    have rv : Vals (kvs.map fun kv => kV kv.1) acc.toList := by
      refine vals_of_at (by rw [List.length_map, el, hacc.1, hl]) fun j x w h1 h2 => ?_
      obtain ⟨k, y, hky, hi⟩ := hacc.2 j w (by rw [← Array.getElem?_toList]; exact h2)
      have e1 : (kvs.map (·.1))[j]? = some k := by
        rw [KV.keys rk, List.getElem?_map, hky] <;> rfl
      have e2 : (kvs.map fun kv => kV kv.1)[j]? = some (kV k) := by
        have e3 : (kvs.map fun kv => kV kv.1) = (kvs.map (·.1)).map kV := by rw [List.map_map] <;> rfl
        rw [e3, List.getElem?_map, e1] <;> rfl
      rw [e2] at h1
      cases h1
      exact keyIs_rel hi
    have hz : (kvs.map fun kv => kV kv.1).length ≤ sizeLine := by rw [List.length_map]; exact z
    have I4 : Inv X pins σ (upd H1 h'.objs.size (.tup (kvs.map fun kv => kV kv.1))) { s1 with heap := h'.push { cls := .type "tuple", data := .seq acc }, toks := tk } := by
      refine I3.laid (t' := tk) (fun b o e => Heap.get?_push_of_some _ e) (Nat.le_refl _) (show ObjOk X.prog X.w _ _ _ (.tup _) from ⟨hz, acc.toList, rv, ?_⟩)
      have e5 : acc.toList.toArray = acc := by simp
      rw [e5]
      exact ⟨_, Heap.get?_push_size _ rfl, rfl, _, rfl⟩
    exact ⟨.ref h'.objs.size, _, I4, rfl, q _ (I3.hok.fresh (Nat.le_refl _))⟩
  show wpAny _ _ (callWith cpos (.builtin "dict.keys") [.ref d] [] []) _ X.xe s1
  exact method_meetsIn F.slot_dict_keys F.entry_dict_keys rfl (PySem.evalArgs_none ⟨rfl, hat.dictOf.typeIs, F.args_dict_keys_1 _, _, PySem.W.kdl_meets_keys (mixKind X.prog X.w) d lo, ⟨vs, hat.dictOf⟩, args_nil fin⟩)

/-! ## xs != [] of any list -/
def rNeE (K : PySem.W.Frag) : R2 := fun x y H Q => ∃ a b xs, x = .ref a ∧ y = .ref b ∧ SqL K H a xs ∧ SqL K H b [] ∧ Q (.bl (!xs.isEmpty)) H
theorem op_neE {X : Cx} (hu : X.A.units < cLine) : OpR X (compareOp .NotEq) (rNeE X.K) := by
  intro pins s σ H x y v u Q I rx ry h
  obtain ⟨a, b, xs, rfl, rfl, ha, hb, q⟩ := h
  obtain rfl : v = .ref a := rx
  obtain rfl : u = .ref b := ry
  obtain ⟨its, r1, p1, z1⟩ := I.list ha
  obtain ⟨jts, r2, p2, z2⟩ := I.list hb
  cases r2
  cases r1 with
  | nil => exact SeqAt.RcNeAt.lists (e := fun _ => true) p1.isList p2.isList rfl hu (fun j h1 _ => absurd h1 (by simp)) X.prog X.w _ _ ⟨.bl _, H, I, rfl, q⟩
  | cons r t => exact SeqAt.RcNeAt.lists_lengths p1.isList p2.isList (by simp) hu X.prog X.w _ _ ⟨.bl _, H, I, rfl, q⟩
/-! ## what never changes: tuples, instances of the classes T -/
def ImmO (T : Addr → Prop) : HO → Prop
  | .tup _ => True
  | .ins C _ _ => T C
  | _ => False
def Imm (T : Addr → Prop) (H H' : Hp) : Prop := ∀ b o, H b = some o → ImmO T o → H' b = some o
theorem Same.imm {T : Addr → Prop} {H H' : Hp} (s : Same H H') : Imm T H H' := fun b o e _ => s b o e
theorem Imm.refl {T : Addr → Prop} (H : Hp) : Imm T H H := fun _ _ e _ => e
theorem Imm.trans {T : Addr → Prop} {H H1 H2 : Hp} (a : Imm T H H1) (b : Imm T H1 H2) : Imm T H H2 := fun c o e i => b c o (a c o e i) i
/-- a store to what may change -/
theorem Imm.mut {T : Addr → Prop} {H : Hp} {p : Addr} {o u : HO} (h : H p = some u) (n : ¬ ImmO T u) : Imm T H (upd H p o) := fun b v e i => by
  rw [upd_ne]
  · exact e
  · rintro rfl
    rw [h] at e
    cases e
    exact n i
theorem Imm.new {T : Addr → Prop} {H : Hp} {p : Addr} {o : HO} (h : H p = none) : Imm T H (upd H p o) := Same.imm (Same.new h)
/-- all but what stands at p -/
def But (p : Addr) (H H' : Hp) : Prop := ∀ b o, H b = some o → b ≠ p → H' b = some o
theorem Same.but {p : Addr} {H H' : Hp} (s : Same H H') : But p H H' := fun b o e _ => s b o e
theorem But.trans {p : Addr} {H H1 H2 : Hp} (a : But p H H1) (b : But p H1 H2) : But p H H2 := fun c o e n => b c o (a c o e n) n
theorem But.upd {p : Addr} {H : Hp} {o : HO} : But p H (upd H p o) := fun b u e n => by rw [upd_ne n]; exact e
theorem But.imm {T : Addr → Prop} {p : Addr} {u : HO} {H H' : Hp} (s : But p H H') (h : H p = some u) (n : ¬ ImmO T u) : Imm T H H' := fun b o e i => s b o e (by
  rintro rfl
  rw [h] at e
  cases e
  exact n i)
theorem But.same {p : Addr} {H0 H H' : Hp} (s0 : Same H0 H) (s : But p H H') (h : H0 p = none) : Same H0 H' := fun b o e => s b o (s0 b o e) (ne_of_none e h)

/-! ## comprehensions: the list so far -/
theorem lc_push {H1 H4 : Hp} {D : Addr} {L : List V} {i : Nat} {y : V} (s : Same H1 H4) (nD : H1 D = none) (h : H4 D = some (.lst (L.take i))) (hy : L[i]? = some y) (hl : L.length ≤ 1000000) :
    ∃ acc, H4 D = some (.lst acc) ∧ acc.length < sizeLine ∧ (Same H1 (upd H4 D (.lst (acc ++ [y]))) ∧ upd H4 D (.lst (acc ++ [y])) D = some (.lst (L.take (i + 1)))) := by
  refine ⟨_, h, ?_, Same.mut s nD, ?_⟩
  · rw [List.length_take, sizeLine_eq]
    omega
  · rw [upd_same, List.take_succ, hy]
    rfl
theorem lk1 {f m : Str} {v : V} (h : (m == f) = false) : List.lookup m [(f, v)] = none := by
  simp [List.lookup, h]
theorem lk1s {f : Str} {v : V} : List.lookup f [(f, v)] = some v := by
  simp [List.lookup]
/-! ## xs == [] of any list; xs.count(y) of flat things; isinstance(t, tuple) -/
def rEqE (K : PySem.W.Frag) : R2 := fun x y H Q => ∃ a b xs, x = .ref a ∧ y = .ref b ∧ SqL K H a xs ∧ SqL K H b [] ∧ Q (.bl xs.isEmpty) H
theorem op_eqE {X : Cx} (hu : X.A.units < cLine) : OpR X (compareOp .Eq) (rEqE X.K) := by
  intro pins s σ H x y v u Q I rx ry h
  obtain ⟨a, b, xs, rfl, rfl, ha, hb, q⟩ := h
  obtain rfl : v = .ref a := rx
  obtain rfl : u = .ref b := ry
  obtain ⟨its, r1, p1, z1⟩ := I.list ha
  obtain ⟨jts, r2, p2, z2⟩ := I.list hb
  cases r2
  cases r1 with
  | nil => exact SeqAt.RcAt.lists (e := fun _ => true) p1.isList p2.isList rfl hu (fun j h1 _ => absurd h1 (by simp)) X.prog X.w _ _ ⟨.bl _, H, I, rfl, q⟩
  | cons r t => exact SeqAt.RcAt.lists_lengths p1.isList p2.isList (by simp) hu X.prog X.w _ _ ⟨.bl _, H, I, rfl, q⟩
theorem count_eqU {x : V} : ∀ {xs : List V} {us : List Value}, Vals xs us → xs.all flatV = true → us.countP (eqU x) = xs.countP fun y => eqV y x
  | _, _, .nil, _ => rfl
  | y :: xs, u :: us, .cons r t, f => by
    rw [List.all_cons, Bool.and_eq_true] at f
    rw [List.countP_cons, List.countP_cons, eqU_of r f.1, count_eqU t f.2]
def rCntF (K : PySem.W.Frag) : V → List V → Hp → VK → Prop := fun x xs H Q => ∃ (p : Addr) (ys : List V) (y : V), x = .ref p ∧ xs = [y] ∧ SqL K H p ys ∧ flatV y = true ∧ ys.all flatV = true ∧ Q (.int ((ys.countP fun z => eqV z y : Nat) : Int)) H
theorem mt_countF {X : Cx} : MtR X "list.count" (rCntF X.K) := by
  intro pins s σ H x xs v us Q I rx rxs h
  obtain ⟨p, ys, y, rfl, rfl, hs, fy, fys, q⟩ := h
  cases rx
  cases rxs with
  | cons ry rt =>
    rename_i uy ut
    cases rt
    obtain ⟨its, rv, ⟨⟨cls, dd, data, sl⟩, n, ho, hc, hdn, hd⟩, hlen⟩ := I.list hs
    simp only at hc hd
    subst hc hd
    refine call_meets PySem.F.slot_list_count ⟨_, ho, rfl⟩ PySem.F.entry_list_count (PySem.F.args_list_count_2 _ _)
      (SeqAt.list_countAt p its.toArray n dd sl uy (eqU y)) ⟨ho, fun w hw => mem_eqAt ry fy rv fys w (by simpa using hw), ?_⟩
    have ec : its.toArray.toList.countP (eqU y) = ys.countP fun z => eqV z y := by
      show its.countP (eqU y) = _
      exact count_eqU rv fys
    refine ⟨.int _, H, I.tok _, ⟨s.toks, ?_⟩, q⟩
    rw [ec]
def rIsTup (K : PySem.W.Frag) : List V → Hp → VK → Prop := fun xs H Q => ∃ a vs, xs = [.ref a, .ty "tuple"] ∧ H a = some (.tup vs) ∧ Q (.bl true) H
theorem call_isTup {X : Cx} : CallR X (.builtin "isinstance") (rIsTup X.K) := by
  intro pins s σ H xs us Q I r h
  obtain ⟨a, vs, rfl, ha, q⟩ := h
  exact call_isi pins s σ H _ us Q I r ⟨_, _, _, _, true, rfl, .ty "tuple", .base (.tup ha), kit_ty (by decide +kernel), q⟩
/-! ## slices of lists -/
theorem cutV_to (l : List V) (n : Nat) : cutV l none (some (n : Int)) = l.take n := by
  unfold cutV
  rw [HT.sIx_none, HT.sIx_nat, List.drop_zero, Nat.sub_zero]
  by_cases h : n ≤ l.length
  · rw [Nat.min_eq_left h]
  · rw [Nat.min_eq_right (by omega), List.take_of_length_le (Nat.le_refl _), List.take_of_length_le (by omega)]
theorem cutV_from (l : List V) (n : Nat) : cutV l (some (n : Int)) none = l.drop n := by
  unfold cutV
  rw [HT.sIx_none, HT.sIx_nat]
  by_cases h : n ≤ l.length
  · rw [Nat.min_eq_left h, List.take_of_length_le (by rw [List.length_drop]; omega)]
  · rw [Nat.min_eq_right (by omega), List.drop_of_length_le (Nat.le_refl _), List.drop_of_length_le (by omega)]
    simp
theorem cutV_last (l : List V) : cutV l none (some (-1)) = l.dropLast := by
  unfold cutV
  rw [HT.sIx_none, List.drop_zero, Nat.sub_zero, List.dropLast_eq_take]
  congr 1
  show (if (-1 : Int) < 0 then ((-1 : Int) + (l.length : Int)).toNat else min (-1 : Int).toNat l.length) = _
  rw [if_pos (by decide)]
  omega
theorem slL_to {K : PySem.W.Frag} {H : Hp} {a : Addr} {xs : List V} {i : Int} {Q : VK} (n : Nat) (e : i = (n : Int)) (h : SqL K H a xs) (k : ∀ p, H p = none → Q (.ref p) (upd H p (.lst (xs.take n)))) : rSlL K (.ref a) none (some i) H Q :=
  ⟨a, xs, rfl, h, fun p np => by rw [e, cutV_to]; exact k p np⟩
theorem slL_from {K : PySem.W.Frag} {H : Hp} {a : Addr} {xs : List V} {i : Int} {Q : VK} (n : Nat) (e : i = (n : Int)) (h : SqL K H a xs) (k : ∀ p, H p = none → Q (.ref p) (upd H p (.lst (xs.drop n)))) : rSlL K (.ref a) (some i) none H Q :=
  ⟨a, xs, rfl, h, fun p np => by rw [e, cutV_from]; exact k p np⟩
theorem slL_last {K : PySem.W.Frag} {H : Hp} {a : Addr} {xs : List V} {Q : VK} (h : SqL K H a xs) (k : ∀ p, H p = none → Q (.ref p) (upd H p (.lst xs.dropLast))) : rSlL K (.ref a) none (some (-1)) H Q :=
  ⟨a, xs, rfl, h, fun p np => by rw [cutV_last]; exact k p np⟩
end Ru

set_option Elab.async false
set_option linter.all false
set_option maxRecDepth 100000
set_option maxHeartbeats 2000000
/-! what is raised: defs that may raise, one's own classes of errors, a def that is asked while one is handled -/
namespace Ru
open PySem PySem.Spec PyProof.Rows L2

/-! ## defs that may raise -/
section
variable {P : Program} {w : World} {K : PySem.W.Frag} {mg : Str → Option Value} {base : Heap}
theorem fnAt_okX {x : Str} {st : Stmt} {N ps : List Str} {k : Nat} {sp : Sp} (D : DefAt K mg x st ps) (S : FnScope N ps (defScope st)) (len : ∀ vs H Q E, sp vs H Q E → vs.length = ps.length)
    (hbody : ∀ (f : Addr) (cdv : Value) (A : Around) (outer : List Env) (s : Shared) (H : Hp) (vs : List V) (Q : VK) (E : XK), Room k (A.deeper (envOfC x (defScope st) s.heap.objs.size f cdv)) → sp vs H Q E →
      ∃ t, PSs (cxOf (L2.CX P w) P w K mg base N x (defScope st) f cdv A outer s H E) (defBody st) t ∧ t { nx := fun _ H' => Q .non H', rt := Q } (start N vs) H) : FnAt P w K mg base (L2.CX P w) x (k + 1) ps sp := by
  obtain ⟨f, fd, h1, h2, h3⟩ := D.ex
  obtain ⟨oc, od, kV, doc, pm, an, cdv, ct, osl, e, lk, hcd⟩ := h2.ex
  subst e
  exact ⟨f, _, h1, h2.kp, h3, fn_of lk hcd S len fun A outer s H vs Q E hr hsp => hbody f cdv A outer s H vs Q E hr hsp⟩
theorem methAt_okX {C : Addr} {m qual : Str} {st : Stmt} {N ps : List Str} {k : Nat} {sp : Sp} (c : Cls K C) (D : MethAt K C m qual st ps) (S : FnScope N ps (defScope st)) (len : ∀ vs H Q E, sp vs H Q E → vs.length = ps.length)
    (hbody : ∀ (f : Addr) (cdv : Value) (A : Around) (outer : List Env) (s : Shared) (H : Hp) (vs : List V) (Q : VK) (E : XK), Room k (A.deeper (envOfC qual (defScope st) s.heap.objs.size f cdv)) → sp vs H Q E →
      ∃ t, PSs (cxOf (L2.CX P w) P w K mg base N qual (defScope st) f cdv A outer s H E) (defBody st) t ∧ t { nx := fun _ H' => Q .non H', rt := Q } (start N vs) H) :
    ∃ f fd, Cls K C ∧ Meth K C m f ∧ Binds K fd ps [] ∧ FnOk P w K mg base (L2.CX P w) (k + 1) f fd ps sp := by
  obtain ⟨f, fd, h1, h2, h3⟩ := D.ex
  obtain ⟨oc, od, kV, doc, pm, an, cdv, ct, osl, e, lk, hcd⟩ := h2.ex
  subst e
  exact ⟨f, _, c, h1, h3, fn_of lk hcd S len fun A outer s H vs Q E hr hsp => hbody f cdv A outer s H vs Q E hr hsp⟩
end
/-- what a callee lets out leaves the def, too -/
theorem passX {X : Cx} {E : XK} (tk : L2.Takes X fun cls d _ H => E cls d H) : Passes (L2.CX X.prog X.w) X E := L2.passes_call tk fun _ _ _ _ h => h
/-- around a try nothing is let out -/
theorem takesN {X : Cx} : L2.Takes X (fun _ _ _ _ => False) := fun _ _ x => by
  obtain ⟨_, _, _, _, _, _, _, _, _, _, _, _, _, _, _, _, z⟩ := x
  exact z.elim
section
variable {X : Cx} {W : WX} {j k : Nat} {ps : List Str} {sp : Sp} {x : Str} {p pos : Pos} {e : Expr} {es : List Expr} {t : TA}
/-- f(e, ..) within a try -/
theorem pe_callT (F : FnAt X.prog X.w X.K X.mg X.base (L2.CX X.prog X.w) x k ps sp) (hr : Room j X.A) (tk : L2.Takes X W) (ha : PA X (e :: es) t) (hj : k ≤ j := by decide) (hg : Gl X x := by rfl)
    (hdb : (x == ("__debug__" : Str)) = false := by decide) (he : starEach (e :: es) X.env = (false, eval e X.env) :: starEach es X.env := by rfl) (hpl : (backTo pos (starEach es X.env)).any (·.1) = false := by rfl) :
    PE X (.Call (.Name x p) (e :: es) [] pos) (tCallS sp (WE W) t) := by
  obtain ⟨f, fd, h1, h2, h3, h4⟩ := F.ex
  exact pe_callS h4 (hr.mono hj) hg h1 h2 h3 (fun σ => L2.passAt tk σ) ha hdb he hpl
end

/-! ## one's own classes of errors -/
/-- a class of errors called x, at C, over L, over ValueError -/
structure ExcAt (K : PySem.W.Frag) (mg : Str → Option Value) (x : Str) (C L : Addr) : Prop where
  gP : mg x = some (.ref C)
  xP : PySem.W.excIn K C [.type "ValueError", .type "Exception", .type "BaseException", .type "object"] "ValueError.__new__" = true
  kP : PySem.W.keepIn K (.ref C) = true
  is_ : ExcC K C
  tP : PySem.W.typeIn K (.ref C) = some (.type "type")
  mro : ∃ cd, PySem.W.clsIn K C = some cd ∧ cd.mro = [.ref C, .ref L, .type "ValueError", .type "Exception", .type "BaseException", .type "object"]
/-- the class over them -/
structure ErrAt (K : PySem.W.Frag) (mg : Str → Option Value) (x : Str) (L : Addr) : Prop where
  gP : mg x = some (.ref L)
  sub : PySem.W.subIn K (.ref L) (.type "BaseException") = some true
  tP : PySem.W.typeIn K (.ref L) = some (.type "type")
  hd : PySem.W.hasDictIn K L = true
theorem excAt_mk {K : PySem.W.Frag} {mg : Str → Option Value} {h : Heap} {x : Str} {C L : Addr} {cd : ClassData} (X : K.In h) (G : h.Ns mainGlobals mg) (a : PySem.W.nsIn K mainGlobals x = some (some (.ref C)))
    (b : PySem.W.excIn K C [.type "ValueError", .type "Exception", .type "BaseException", .type "object"] "ValueError.__new__" = true) (c : PySem.W.keepIn K (.ref C) = true)
    (d : PySem.W.findIn K (.ref C) "__getattribute__" = some (some (.builtin "BaseException.__getattribute__"))) (e : PySem.W.findIn K (.ref C) "__getattr__" = some none) (f : PySem.W.subIn K (.ref C) (.type "BaseException") = some true) (g : PySem.W.hasDictIn K C = true)
    (i : PySem.W.findIn K (.ref C) "__class__" = some (some (.builtin "object.__class__"))) (j : PySem.W.specialIn K (.builtin "object.__class__") "__get__" = some (some (.builtin "getset_descriptor.__get__"))) (k : PySem.W.takesIn K (.builtin "object.__class__") = some true)
    (l : PySem.W.mroIn K C (.type "object") = some true) (m : PySem.W.typeIn K (.ref C) = some (.type "type")) (n : PySem.W.clsIn K C = some cd) (o : cd.mro = [.ref C, .ref L, .type "ValueError", .type "Exception", .type "BaseException", .type "object"]) : ExcAt K mg x C L :=
  ⟨PySem.W.mg_of X G a, b, c, ⟨d, e, f, g, i, j, k, l⟩, m, cd, n, o⟩
theorem errAt_mk {K : PySem.W.Frag} {mg : Str → Option Value} {h : Heap} {x : Str} {L : Addr} (X : K.In h) (G : h.Ns mainGlobals mg) (a : PySem.W.nsIn K mainGlobals x = some (some (.ref L)))
    (b : PySem.W.subIn K (.ref L) (.type "BaseException") = some true) (c : PySem.W.typeIn K (.ref L) = some (.type "type")) (d : PySem.W.hasDictIn K L = true) : ErrAt K mg x L := ⟨PySem.W.mg_of X G a, b, c, d⟩
section
variable {K : PySem.W.Frag} {mg mg' : Str → Option Value} {x y : Str} {C D L M : Addr}
theorem ExcAt.subs (T : ExcAt K mg x C L) (v : Value) : PySem.W.subIn K (.ref C) v = some ([.ref C, .ref L, .type "ValueError", .type "Exception", .type "BaseException", .type "object"].contains v) := by
  obtain ⟨cd, h1, h2⟩ := T.mro
  show PySem.W.mroIn K C v = _
  unfold PySem.W.mroIn
  rw [h1, Option.bind_some, h2]
  rfl
theorem ExcAt.caught (T : ExcAt K mg x C L) (E : ErrAt K mg' y L) : PySem.W.exmOne K (.ref C) (.ref L) = some true := by
  refine PySem.W.exm_ref E.sub E.hd E.tP ?_
  rw [T.subs]
  congr 1
  simp
/-- isinstance(e, D) of an error of class C -/
theorem ExcAt.kit (T : ExcAt K mg x C L) (U : ExcAt K mg' y D L) (nl : C ≠ L ∧ D ≠ L) : PySem.W.kitOne K (.ref C) (.ref D) = some (decide (C = D)) := by
  obtain ⟨cd, h1, h2⟩ := U.mro
  unfold PySem.W.kitOne
  by_cases h : C = D
  · rw [if_pos (by rw [h]; exact beq_self_eq_true _), decide_eq_true h]
  · rw [if_neg (by rw [beq_iff_eq]; intro q; exact h (Value.ref.inj q)), decide_eq_false h]
    show (if ((PySem.W.clsIn K D).isSome && PySem.W.typeIn K (.ref D) == some (.type "type")) = true then PySem.W.subIn K (.ref C) (.ref D) else none) = _
    rw [h1, U.tP, if_pos (show ((some cd).isSome && some (Value.type "type") == some (Value.type "type")) = true from rfl), T.subs]
    congr 1
    have e1 : (Value.ref D == Value.ref C) = false := by
      rw [beq_eq_false_iff_ne]
      intro q
      exact h (Value.ref.inj q).symm
    have e2 : (Value.ref D == Value.ref L) = false := by
      rw [beq_eq_false_iff_ne]
      intro q
      exact nl.2 (Value.ref.inj q)
    rw [List.contains_cons, e1, List.contains_cons, e2]
    rfl
theorem ExcAt.kitV (T : ExcAt K mg x C L) : PySem.W.kitOne K (.ref C) (.type "ValueError") = some true := by
  unfold PySem.W.kitOne
  rw [if_neg (by rw [beq_iff_eq]; intro q; cases q)]
  show (if PySem.W.kitMeta "ValueError" = true then PySem.W.subIn K (.ref C) (.type "ValueError") else none) = _
  rw [if_pos (by decide +kernel), T.subs]
  congr 1
end
section
variable {X : Cx} {W : WX} {C L : Addr} {x m : Str} {j : Nat} {p p2 pos pos' : Pos}
/-- raise C('m') -/
theorem ps_raiseO (hc : X.calm = true) (T : ExcAt X.K X.mg x C L) (tk : L2.Takes X W) (hg : Gl X x := by rfl) (hdb : (x == ("__debug__" : Str)) = false := by decide) :
    PS X (.Raise (some (.Call (.Name x p) [.Constant (.str m) j p2] [] pos)) none pos') (fun _ σ H => W (.ref C) none σ H) :=
  L2.ps_raise hc tk (L2.pmk_own PySem.F.excBase_ValueError T.xP T.gP T.kP (raises_own T.is_.hs T.tP) hg hdb)
end

/-! ## a def that is asked of the error that is handled -/
/-- the promise of a def that bears the handled error's object p among its arguments -/
structure FnP (P : Program) (w : World) (K : PySem.W.Frag) (mg : Str → Option Value) (base : Heap) (CX : CXT) (k : Nat) (f : Addr) (fd : FuncData) (ps : List Str) (sp : Addr → Value → Option Addr → Sp) : Prop where
  len : ∀ a c d vs H Q E, sp a c d vs H Q E → vs.length = ps.length
  run : ∀ (A : Around) (outer : List Env) (s : Shared) (H : Hp) (args : Args) (us : List Value) (vs : List V) (Q : VK) (E : XK) (p : Addr × Obj) (c : Value) (d : Option Addr), Zc c d p.2 → (∃ vs, p.2.data = .fields vs) → L2H.RoomH k A → L2H.PinOk outer H s p → Env0 P w K mg base A outer s H → BindsTo s fd args (ps.zip us) → Vals vs us → sp p.1 c d vs H Q E →
    codeAny (model P w) A (.call (.ref f) args) (CR CX outer P w H s Q E) s
structure FnPAt (P : Program) (w : World) (K : PySem.W.Frag) (mg : Str → Option Value) (base : Heap) (cx : CXT) (x : Str) (k : Nat) (ps : List Str) (sp : Addr → Value → Option Addr → Sp) : Prop where
  ex : ∃ f fd, mg x = some (.ref f) ∧ PySem.W.keepIn K (.ref f) = true ∧ Binds K fd ps [] ∧ FnP P w K mg base cx k f fd ps sp
theorem fnPAt_ok {P : Program} {w : World} {K : PySem.W.Frag} {mg : Str → Option Value} {base : Heap} {x : Str} {st : Stmt} {N ps : List Str} {k : Nat} {sp : Addr → Value → Option Addr → Sp} (D : DefAt K mg x st ps) (S : FnScope N ps (defScope st)) (len : ∀ a c d vs H Q E, sp a c d vs H Q E → vs.length = ps.length)
    (hbody : ∀ (f : Addr) (cdv : Value) (A : Around) (outer : List Env) (s : Shared) (H : Hp) (vs : List V) (Q : VK) (E : XK) (p : Addr × Obj) (c : Value) (d : Option Addr), Zc c d p.2 → (∃ vs, p.2.data = .fields vs) → L2H.RoomH k (A.deeper (envOfC x (defScope st) s.heap.objs.size f cdv)) → sp p.1 c d vs H Q E →
      ∃ t, PSs (L2H.cxH CX0 P w K mg base N x (defScope st) f cdv A outer s H E p).nox (defBody st) t ∧ t { nx := fun _ H' => Q .non H', rt := Q } (start N vs) H) : FnPAt P w K mg base CX0 x (k + 1) ps sp := by
  obtain ⟨f, fd, h1, h2, h3⟩ := D.ex
  obtain ⟨oc, od, kV, doc, pm, an, cdv, ct, osl, e, lk, hcd⟩ := h2.ex
  subst e
  refine ⟨f, _, h1, h2.kp, h3, len, fun A outer s H args us vs Q E p cl d hz hf hr hpin e0 hb r hsp => ?_⟩
  have there : K.In s.heap := e0.mod.kin.keeps fun b o z => (e0.bs b o z).1
  have seen : ∀ y ∈ ps.zip us, (defScope st).names.lookup y.1 = some .local ∨ ((defScope st).names.lookup y.1 = some .cell ∧ ((cellsFrom (s.heap.objs.size + 1) (defScope st).names []).lookup y.1).isSome = true) := fun y hy =>
    (S.par y.1 (List.of_mem_zip hy).1).imp id fun q => ⟨q, PySem.W.cellsFrom_some _ _ _ (.inl q)⟩
  refine codeAny_call_function hr.depth (there _ _ lk) rfl S.co S.gen rfl (PySem.W.codeRec_of there hcd) (hb _ _ _ _ (wpAny_newFunctionEnv_cells S.kind seen fun env he s1 y => ?_))
  subst he
  have lim : s.heap.NoLimit := e0.mod.nolimit.keeps fun b o z => (e0.bs b o z).1
  refine ⟨lim.keeps y.toInCall.keep, codeAny_func ?_⟩
  obtain ⟨t, ht, hq⟩ := hbody f cdv A outer s H vs Q E p cl d hz hf (hr.deeper _) hsp
  refine wpAny_mono (ht.nox.run [] s1 (L2.start N vs) H _ (L2H.inv_startH S hpin e0 (len _ _ _ _ _ _ _ hsp) r y) hq) (fun fl s' hs => ?_) fun e s' hs => hs
  match fl, hs with
  | .ret u, ⟨v, _, H', J, rv, q⟩ => exact ⟨v, H', J.os, J.bare, J.base, J.hok, rv, q⟩
  | .next, ⟨_, H', J, q⟩ => exact ⟨.non, H', J.os, J.bare, J.base, J.hok, rfl, q⟩
  | .brk, ⟨_, _, _, q⟩ => exact False.elim q
  | .cont, ⟨_, _, _, q⟩ => exact False.elim q
/-- f(e, ..) in an except suite -/
theorem pe_callP {X : Cx} {a : Addr} {oe : Obj} {pn : List (Addr × Obj)} {j k : Nat} {x : Str} {ps : List Str} {sp : Addr → Value → Option Addr → Sp} {cls : Value} {d : Option Addr} {q pos : Pos} {e : Expr} {es : List Expr} {t : TA} (F : FnPAt X.prog X.w X.K X.mg X.base CX0 x k ps sp) (hz : Zc cls d oe) (hf : ∃ vs, oe.data = .fields vs) (hr : Room j X.A)
    (ha : PA (X.suite a ((a, oe) :: pn)) (e :: es) t) (hj : k ≤ j := by decide) (hg : Gl X x := by rfl)
    (hdb : (x == ("__debug__" : Str)) = false := by decide) (he : starEach (e :: es) X.env = (false, eval e X.env) :: starEach es X.env := by rfl) (hpl : (backTo pos (starEach es X.env)).any (·.1) = false := by rfl) :
    PE (X.suite a ((a, oe) :: pn)) (.Call (.Name x q) (e :: es) [] pos) (tCall (sp a cls d) [] E0 t) := by
  obtain ⟨f, fd, h1, h2, h3, h4⟩ := F.ex
  have room0 := (L2H.roomH_of hr).mono hj
  have room : L2H.RoomH k (X.suite a ((a, oe) :: pn)).A := ⟨room0.dp, room0.un⟩
  refine ⟨fun pins s σ H Q I h => wpAny_Call_Name_kw (ld_glob I hg h1 (PySem.W.callWith_K (h₀ := X.base) I.ok.mod.kin h2 (thn (ha.run pos pins s σ H _ I h) fun us s1 ⟨vs, H1, I1, r, z⟩ => ⟨I1.kIn, ?_⟩) he hpl) hdb)⟩
  have z : sp a cls d (vs ++ []) H1 Q E0 := z
  rw [List.append_nil] at z
  have b := h3 s1 us I1.kIn (by rw [List.append_nil, ← r.length]; exact h4.len _ _ _ _ _ _ _ z)
  rw [List.append_nil] at b
  obtain ⟨g1, g2, g3, g4, g5⟩ := I1.pin (a, oe) (List.mem_append_left _ List.mem_cons_self)
  refine wpAny_call (codeAny_mono (h4.run _ (X.suite a ((a, oe) :: pn)).stack s1 H1 ⟨us, []⟩ us vs Q E0 (a, oe) cls d hz hf room ⟨g1, g2, fun hm => (List.mem_cons.mp (I1.stkSub a hm)).elim g3 g4, g5⟩ I1.env0 b r z) fun r s' hq => ?_)
  match r, hq with
  | .error e, hq => exact False.elim hq
  | .ok (.ret u), hq => exact I1.after hq
  | .ok .next, hq => exact False.elim hq
  | .ok .brk, hq => exact False.elim hq
  | .ok .cont, hq => exact False.elim hq
/-- isinstance(e, c) in such a def, p's object an error of class C -/
def rIsP (K : PySem.W.Frag) (C : Addr) (p : Addr × Obj) : List V → Hp → VK → Prop := fun xs H Q => ∃ (c : V) (cv : Value) (b : Bool), xs = [.ref p.1, c] ∧ (∀ u, RelV c u → u = cv) ∧ PySem.W.kitOne K (.ref C) cv = some b ∧ Q (.bl b) H
/-- of some classes -/
def rIsPT (K : PySem.W.Frag) (C : Addr) (p : Addr × Obj) : List V → Hp → VK → Prop := fun xs H Q => ∃ (tp : Addr) (cs : List V) (us : List Value) (b : Bool), xs = [.ref p.1, .ref tp] ∧ H tp = some (.tup cs) ∧ Paired ClsV cs us ∧ PySem.W.kitAny K (.ref C) us = some b ∧ Q (.bl b) H
theorem instAt_of {h : Heap} {a D : Addr} {oe : Obj} (g : h.get? a = some oe) (hz : Zc (.ref D) none oe) (hf : ∃ vs, oe.data = .fields vs) : PySem.W.InstAt h a oe D none := by
  obtain ⟨vs, hv⟩ := hf
  refine ⟨g, hz.1, ?_, ?_⟩
  · unfold PySem.W.notCls
    rw [hv]
  · rw [hz.2]
    trivial
section
variable {X : Cx} {C : Addr} {p : Addr × Obj}
theorem call_isP (T : ExcC X.K C) (hz : Zc (.ref C) none p.2) (hf : ∃ vs, p.2.data = .fields vs) (hp : p ∈ X.pn) : CallR X (.builtin "isinstance") (rIsP X.K C p) := by
  intro pins s σ H xs us Q I r h
  obtain ⟨c, cv, b, rfl, hcv, e, q⟩ := h
  obtain ⟨u, w', rfl, ru, rw'⟩ := vals2 r
  cases (show u = Value.ref p.1 from ru)
  have ec := hcv _ rw'
  subst ec
  exact PySem.W.kia_one (PySem.W.handS_kitx_exc T.hg T.hk T.hs T.hd T.ha T.hn T.ht T.hm) I.kIn (instAt_of (I.pin p (List.mem_append_left _ hp)).1 hz hf) e (fun z => nomatch z) fun tk => ⟨.bl b, H, I.tok tk, rfl, q⟩
theorem call_isPT (T : ExcC X.K C) (hz : Zc (.ref C) none p.2) (hf : ∃ vs, p.2.data = .fields vs) (hp : p ∈ X.pn) : CallR X (.builtin "isinstance") (rIsPT X.K C p) := by
  intro pins s σ H xs us Q I r h
  obtain ⟨tp, cs, ws, b, rfl, hT, k, e, q⟩ := h
  obtain ⟨u, w', rfl, ru, rw'⟩ := vals2 r
  cases (show u = Value.ref p.1 from ru)
  cases (show w' = Value.ref tp from rw')
  obtain ⟨_, its, rv, o, h1, h2, n, h3⟩ := (show ObjOk X.prog X.w H s.heap tp (.tup cs) from I.hok tp _ hT)
  have e3 := ClsV.all k rv
  subst e3
  obtain ⟨oc, od, dt, sl⟩ := o
  simp only at h2 h3
  subst h2 h3
  exact PySem.W.kia_tup (PySem.W.handS_kitx_exc T.hg T.hk T.hs T.hd T.ha T.hn T.ht T.hm) I.kIn (instAt_of (I.pin p (List.mem_append_left _ hp)).1 hz hf) h1 e (fun z => nomatch z) fun tk => ⟨.bl b, H, I.tok tk, rfl, q⟩
end
/-- a class of errors as a value -/
theorem pe_exc {X : Cx} {x : Str} {C L : Addr} {pos : Pos} (h : ExcAt X.K X.mg x C L) (hg : Gl X x := by rfl) (hd : (x == ("__debug__" : Str)) = false := by decide) : PE X (.Name x pos) (tC (.ref C)) := pe_glob hg h.gP rfl hd
/-! ## t[::-1] of a tuple -/
theorem pick_rev (xs : Array Value) : ((List.range xs.size).filterMap fun (m : Nat) => xs[(((xs.size : Int) - 1) + (m : Int) * (-1)).toNat]?).toArray = xs.toList.reverse.toArray := by
  congr 1
  have e : ∀ m ∈ List.range xs.size, xs[(((xs.size : Int) - 1) + (m : Int) * (-1)).toNat]? = xs[xs.size - 1 - m]? := by
    intro m hm
    have := List.mem_range.mp hm
    congr 1
    omega
  have cong : ∀ (l : List Nat) (f g : Nat → Option Value), (∀ m ∈ l, f m = g m) → l.filterMap f = l.filterMap g := by
    intro l f g
    induction l with
    | nil => intro _; rfl
    | cons a r ih =>
      intro h
      rw [List.filterMap_cons, List.filterMap_cons, h a List.mem_cons_self, ih fun m hm => h m (List.mem_cons_of_mem _ hm)]
  rw [cong _ _ _ e]
  have e2 : (List.range xs.size).filterMap (fun m => xs[xs.size - 1 - m]?) = ((List.range xs.size).map fun k => xs.size - 1 - k).filterMap (xs[·]?) := by
    rw [List.filterMap_map]
    rfl
  rw [e2, PySem.W.krv_range, List.filterMap_reverse, PySem.W.krv_all]
section
variable {prog : Program} {w : World} {A : Around} {E : Value → Shared → Prop} {s : Shared}
theorem sliceApplied_rev {sl : Addr} {vs : Value} {n : Nat} {Q : Int × Int × Nat → Shared → Prop} (hs : s.heap.IsSliceOf sl .none .none vs) (ps : IsPart vs (some (-1))) (h : Q ((n : Int) - 1, -1, n) s) :
    wpAny (model prog w) A (Builtin.Slice.sliceApplied (.ref sl) (pure (n : Int))) Q E s := by
  obtain ⟨os, hos, hcs, hds⟩ := id hs
  unfold Builtin.Slice.sliceApplied Builtin.Slice.sliceFields
  refine wpAny_bind (wpAny_bind (wpAny_field hos hds (x := .none) rfl (wpAny_bind (wpAny_field hos hds (x := .none) rfl (wpAny_bind (wpAny_field hos hds (x := vs) rfl (wpAny_pure ?_)))))))
  refine wpAny_bind (HT.slicePart_ ps ?_)
  show wpAny _ _ (if ((-1 : Int) == 0) = true then _ else _) _ _ s
  rw [if_neg (by decide)]
  refine wpAny_bind (HT.slicePart_ .none (wpAny_bind (HT.slicePart_ .none (wpAny_bind (wpAny_pure ?_)))))
  have e : Builtin.Slice.slicePlaces ((n : Int) - 1) (-1) (-1) = n := by
    unfold Builtin.Slice.slicePlaces
    rw [if_neg (by decide)]
    by_cases hn : (n : Int) - 1 > -1
    · rw [if_pos hn, show (- -1 : Int) = 1 by decide, Int.ediv_one]
      omega
    · rw [if_neg hn]
      omega
  show wpAny _ _ (pure ((n : Int) - 1, (-1 : Int), Builtin.Slice.slicePlaces ((n : Int) - 1) (-1) (-1))) _ _ s
  rw [e]
  exact wpAny_pure h
theorem getItem_tuple_rev {t sl : Addr} {items : Array Value} {vs : Value} {Q : Value → Shared → Prop} (ht : IsTup s.heap t items) (hs : s.heap.IsSliceOf sl .none .none vs) (ps : IsPart vs (some (-1)))
    (h : Q (.ref s.heap.objs.size) { s with heap := s.heap.push { cls := .type "tuple", data := .seq items.toList.reverse.toArray } }) (hsz : items.size ≤ sizeLine) : wpAny (model prog w) A (getItem (.ref t) (.ref sl)) Q E s := by
  have room : sizeOk (.seq items.toList.reverse.toArray) := by
    show items.toList.reverse.toArray.size ≤ sizeLine
    rw [List.size_toArray, List.length_reverse, Array.length_toList]
    exact hsz
  obtain ⟨os, hos, hcs, hds⟩ := id hs
  have hTs : s.TypeIs (.ref sl) "slice" := ⟨os, hos, hcs⟩
  unfold getItem
  try with_reducible refine wpAny_holding ?_
  first | refine wpAny_bind (wpAny_pure ?_) | skip
  refine wpAny_bind (wpAny_sequenceKey ht.typeIs (by decide) ?_)
  refine wpAny_bind (wpAny_callSpecial?_slot (name := Str.ofString "__getitem__") ht.typeIs PyProof.Rows.slot_tuple_getitem
    (wpAny_call_entry PyProof.Rows.slot_tuple_getitem ht.typeIs entry_tuple_getitem ?_ (args_tuple_getitem _ _)))
  show wpAny _ _ (Builtin.Tuple.tupleItemsOf (.ref t) >>= _) _ _ s
  refine wpAny_bind (tupleItemsOf_ ht ?_)
  refine wpAny_bind (wpAny_typeOf hTs ?_)
  rw [if_pos (by decide)]
  refine wpAny_bind (sliceApplied_rev hs ps ?_)
  show wpAny _ _ (if ((items.size : Int) - 1 == 0 && (-1 : Int) == 1 && items.size == items.size) = true then _ else _) _ _ s
  rw [if_neg (by rw [show ((-1 : Int) == 1) = false from rfl, Bool.and_false, Bool.false_and]; exact Bool.false_ne_true), pick_rev]
  first
    | exact wpAny_bind (m := Builtin.Tuple.tupleExact _) (wpAny_newObj_type (wpAny_pure ⟨_, rfl, wpAny_pure h⟩) room)
    | exact wpAny_bind (m := Builtin.Tuple.tupleExact _) (wpAny_newObj_type (wpAny_bind (wpAny_pure (wpAny_pure ⟨_, rfl, wpAny_pure h⟩))) room)
    | exact wpAny_bind (wpAny_bind (m := Builtin.Tuple.tupleExact _) (wpAny_newObj_type (wpAny_pure (wpAny_pure ⟨_, rfl, wpAny_pure h⟩)) room))
    | exact wpAny_bind (wpAny_bind (m := Builtin.Tuple.tupleExact _) (wpAny_newObj_type (wpAny_pure ⟨_, rfl, wpAny_pure h⟩) room))
end
def tRevT (K : PySem.W.Frag) (te : TE) : TE := fun σ H Q => te σ H fun x H1 => ∃ a xs, x = .ref a ∧ SqT K H1 a xs ∧ ∀ p, H1 p = none → Q (.ref p) (upd H1 p (.tup xs.reverse))
theorem pe_revT {X : Cx} {e : Expr} {te : TE} {k : Nat} {p1 p2 p3 pos : Pos} (he : PE X e te) : PE X (.Subscript e (.Slice none none (some (.UnaryOp .USub (.Constant (.int 1) k p1) p2)) p3) pos) (tRevT X.K te) := by
  refine ⟨fun pins s σ H Q I h => ?_⟩
  refine Subscript_ (thn (he.run pins s σ H _ I h) fun v s1 ⟨x, H1, I1, r1, a, xs, ex, hx, q⟩ => ?_)
  subst ex
  cases r1
  have hst : PO X (some (.UnaryOp .USub (.Constant (.int 1) k p1) p2)) (tPart (tUn (rU fun i => .int (-i)) (tC (.int 1)))) := po_some (pe_un un_neg pe_int)
  refine wpAny_Slice ?_
  rw [evalPart_none]
  refine wpAny_pure ?_
  refine wpAny_pure ?_
  refine thn (hst.run pins s1 σ H1 (fun o H4 => o = some (-1) ∧ H4 = H1) I1 ⟨1, rfl, -1, rfl, rfl, rfl⟩) fun vs s4 ⟨o, H4, I4, ps, eo, e4⟩ => ?_
  subst eo e4
  have I5 : Inv X pins σ H4 { s4 with heap := s4.heap.push { cls := .type "slice", data := .fields #[.none, .none, vs] } } := I4.kept (t' := s4.toks) fun b ob q => Heap.get?_push_of_some _ q
  obtain ⟨its, r, ht, hz⟩ := I5.tuple hx
  have hlen := r.length
  show wpAny (model X.prog X.w) X.A (subscriptTail e (.Slice none none (some (.UnaryOp .USub (.Constant (.int 1) k p1) p2)) p3) (.ref a) (.ref s4.heap.objs.size)) (EP X pins σ Q) X.xe { s4 with heap := s4.heap.push { cls := .type "slice", data := .fields #[.none, .none, vs] } }
  refine tail_any (ops := [.ref a, .ref s4.heap.objs.size]) ht.typeIs PyProof.Rows.slot_tuple_getitem.lookup ?_ (by with_unfolding_all rfl)
  refine getItem_tuple_rev ht (Heap.IsSliceOf.new _ .none .none vs) ps ?_ (by rw [List.size_toArray]; omega)
  refine ⟨.ref _, _, I5.laid (t' := s4.toks) (o := .tup xs.reverse) (fun b ob q => Heap.get?_push_of_some _ q) (Nat.le_refl _) ?_, rfl, q _ (I5.hok.fresh (Nat.le_refl _))⟩
  exact ⟨by rw [List.length_reverse]; exact hz, _, by simpa using r.reverse, IsTup.new _ _⟩

/-! ## C.m(o, ..): a def of a class, read off the class itself -/
structure ClsFnAt (K : PySem.W.Frag) (C : Addr) (m qual : Str) (st : Stmt) (ps : List Str) : Prop where
  ex : ∃ f fd, PySem.W.readsIn K C (.type "type") = true ∧ PySem.W.specialIn K (.ref C) "__getattribute__" = some (some (.builtin "type.__getattribute__")) ∧ PySem.W.findCls K (.ref C) (.type "type") m = some (.val (.ref f)) ∧ Fun K m qual st f fd ∧ Binds K fd ps []
theorem clsFnAt_mk {K : PySem.W.Frag} {C : Addr} {m qual : Str} {st : Stmt} {ps : List Str} {f : Addr} {oc : Value} {od an : Option Addr} {osl : Array (Option Value)} {kV doc pm cdv ct : Value}
    (r : PySem.W.readsIn K C (.type "type") = true) (g : PySem.W.specialIn K (.ref C) "__getattribute__" = some (some (.builtin "type.__getattribute__"))) (a : PySem.W.findCls K (.ref C) (.type "type") m = some (.val (.ref f)))
    (l : K.lookup f = some ⟨oc, od, .func (PySem.W.fnOf m qual (defArgs st) (defBody st) (defScope st) .none kV doc pm an cdv ct), osl⟩)
    (c : PySem.W.codeIn K cdv qual = true) (k : PySem.W.keepIn K (.ref f) = true)
    (b : ∀ us : List Value, us.length = ps.length → bindArgs (PySem.W.fnOf m qual (defArgs st) (defBody st) (defScope st) .none kV doc pm an cdv ct) ⟨us, []⟩ = pure (ps.zip us)) : ClsFnAt K C m qual st ps :=
  ⟨f, _, r, g, a, fun_mk l c k, .all b⟩
/-- the promise of a def that is read off the class C -/
structure ClsFn (P : Program) (w : World) (K : PySem.W.Frag) (mg : Str → Option Value) (base : Heap) (cx : CXT) (C : Addr) (m : Str) (k : Nat) (ps : List Str) (sp : Sp) : Prop where
  ex : ∃ f fd, PySem.W.readsIn K C (.type "type") = true ∧ PySem.W.specialIn K (.ref C) "__getattribute__" = some (some (.builtin "type.__getattribute__")) ∧ PySem.W.findCls K (.ref C) (.type "type") m = some (.val (.ref f)) ∧ PySem.W.keepIn K (.ref f) = true ∧ Binds K fd ps [] ∧ FnOk P w K mg base cx k f fd ps sp
theorem clsFn_okX {P : Program} {w : World} {K : PySem.W.Frag} {mg : Str → Option Value} {base : Heap} {C : Addr} {m qual : Str} {st : Stmt} {N ps : List Str} {k : Nat} {sp : Sp} (D : ClsFnAt K C m qual st ps) (S : FnScope N ps (defScope st)) (len : ∀ vs H Q E, sp vs H Q E → vs.length = ps.length)
    (hbody : ∀ (f : Addr) (cdv : Value) (A : Around) (outer : List Env) (s : Shared) (H : Hp) (vs : List V) (Q : VK) (E : XK), Room k (A.deeper (envOfC qual (defScope st) s.heap.objs.size f cdv)) → sp vs H Q E →
      ∃ t, PSs (cxOf (L2.CX P w) P w K mg base N qual (defScope st) f cdv A outer s H E) (defBody st) t ∧ t { nx := fun _ H' => Q .non H', rt := Q } (start N vs) H) :
    ClsFn P w K mg base (L2.CX P w) C m (k + 1) ps sp := by
  obtain ⟨f, fd, h1, h2, h3, h4, h5⟩ := D.ex
  obtain ⟨oc, od, kV, doc, pm, an, cdv, ct, osl, e, lk, hcd⟩ := h4.ex
  subst e
  exact ⟨f, _, h1, h2, h3, h4.kp, h5, fn_of lk hcd S len fun A outer s H vs Q E hr hsp => hbody f cdv A outer s H vs Q E hr hsp⟩
theorem pe_clsF {X : Cx} {cx : CXT} {j k : Nat} {C : Addr} {ps : List Str} {sp : Sp} {E : XK} {m : Str} {pos apos : Pos} {e o : Expr} {es : List Expr} {t : TA} {pl : Sem Bool} (F : ClsFn X.prog X.w X.K X.mg X.base cx C m k ps sp) (hr : Room j X.A) (hx : Passes cx X E) (he : PE X o (tC (.ref C))) (ha : PA X (e :: es) t) (hj : k ≤ j := by decide)
    (hst : starEach (e :: es) X.env = (false, eval e X.env) :: starEach es X.env := by rfl) (hpl : (backTo pos (starEach es X.env)).any (·.1) = false := by rfl)
    (ht : eval (.Call (.Attribute o m apos) (e :: es) [] pos) X.env = (do
      let ov ← eval o X.env
      standAt apos.atName
      let (f, first) ← holding [ov] (getMethod ov m pl)
      callWith pos f first (backTo pos (starEach (e :: es) X.env)) (backToKw pos (keywordEach [] X.env))) := by rfl) :
    PE X (.Call (.Attribute o m apos) (e :: es) [] pos) (tCall sp [] E t) := by
  obtain ⟨f, fd, h1, h2, h3, h4, h5, h6⟩ := F.ex
  refine ⟨fun pins s σ H Q I h => ?_⟩
  refine PySem.W.methodCall_KW (pl := pl) (thn (he.run pins s σ H (fun x H1 => x = .ref C ∧ H1 = H) I ⟨rfl, rfl⟩) fun u s1 ⟨x, H1, I1, rx, ex, eh⟩ => ?_) ht
  subst ex eh
  obtain rfl : u = Value.ref C := rx
  refine PySem.W.method_cls I1.kIn h2 (PySem.W.cls_value I1.kIn h1 h3 rfl ?_)
  have I2 := I1.tok (s1.toks + 1)
  refine PySem.W.callWith_K (first := []) (h₀ := X.base) I.ok.mod.kin h4 (thn (ha.run pos pins _ σ H1 _ I2 h) fun us s2 ⟨vs, H2, I3, r, q2⟩ => ⟨I3.kIn, ?_⟩) hst hpl
  exact run_fn (us := us) (vs := vs) (dvs := []) (ds := []) h6 (hr.mono hj) h5 .nil hx I3 r q2

/-! ## what lets nothing out is calm -/
section
variable {P : Program} {w : World} {K : PySem.W.Frag} {mg : Str → Option Value} {base : Heap} {k : Nat} {ps : List Str} {sp : Sp}
theorem fnOk_calm {f : Addr} {fd : FuncData} (F : FnOk P w K mg base (L2.CX P w) k f fd ps sp) : FnOk P w K mg base CX0 k f fd ps (fun vs H Q _ => sp vs H Q E0) := by
  refine ⟨fun vs H Q E h => F.len vs H Q E0 h, fun A outer s H args us vs Q E hr e0 hb r h => ?_⟩
  refine codeAny_mono (F.run A outer s H args us vs Q E0 hr e0 hb r h) fun r s' z => ?_
  match r, z with
  | .error e, z =>
    obtain ⟨_, _, _, _, _, _, _, _, _, _, _, _, z⟩ := z
    exact z.elim
  | .ok (.ret u), z => exact z
  | .ok .next, z => exact z
  | .ok .brk, z => exact z
  | .ok .cont, z => exact z
theorem FnAt.calm {x : Str} (F : FnAt P w K mg base (L2.CX P w) x k ps sp) : FnAt P w K mg base CX0 x k ps (fun vs H Q _ => sp vs H Q E0) := by
  obtain ⟨f, fd, h1, h2, h3, h4⟩ := F.ex
  exact ⟨f, fd, h1, h2, h3, fnOk_calm h4⟩
theorem MakAt.calm {x : Str} {C : Addr} (F : MakAt P w K mg base (L2.CX P w) x C k ps sp) : MakAt P w K mg base CX0 x C k ps (fun vs H Q _ => sp vs H Q E0) := by
  obtain ⟨f, fd, h1, h2, h3, h4⟩ := F.ex
  exact ⟨f, fd, h1, h2, h3, fnOk_calm h4⟩
end
theorem DispAt.calm {P : Program} {w : World} {K : PySem.W.Frag} {mg : Str → Option Value} {base : Heap} {k : Nat} {ps : List Str} {T : Addr → Prop} {m : Str} {sp : Addr → Sp} (F : DispAt P w K mg base (L2.CX P w) T m k ps sp) : DispAt P w K mg base CX0 T m k ps (fun C vs H Q _ => sp C vs H Q E0) :=
  ⟨fun C t => let ⟨f, fd, h1, h2, h3, h4⟩ := F.ex C t; ⟨f, fd, h1, h2, h3, fnOk_calm h4⟩⟩
theorem call_isStr {X : Cx} : CallR X (.builtin "isinstance") (rIsF "str" isStrV) :=
  call_isF (by decide +kernel) (fun _ => (by decide +kernel : kitB "bool" "str" = some false)) (fun _ => (by decide +kernel : kitB "int" "str" = some false)) fun _ => (by decide +kernel : kitB "str" "str" = some true)
/-! ## two lists, one by the other -/
inductive Two {α : Type} (R : V → α → Prop) : List V → List α → Prop
  | nil : Two R [] []
  | cons {v : V} {vs : List V} {c : α} {cs : List α} (h : R v c) (t : Two R vs cs) : Two R (v :: vs) (c :: cs)
section
variable {α : Type} {R S : V → α → Prop}
theorem Two.mono (k : ∀ v c, R v c → S v c) : ∀ {vs : List V} {cs : List α}, Two R vs cs → Two S vs cs
  | _, _, .nil => .nil
  | _, _, .cons h t => .cons (k _ _ h) (t.mono k)
theorem Two.length : ∀ {vs : List V} {cs : List α}, Two R vs cs → vs.length = cs.length
  | _, _, .nil => rfl
  | _, _, .cons _ t => by rw [List.length_cons, List.length_cons, t.length]
theorem Two.at : ∀ {vs : List V} {cs : List α} {i : Nat} {v : V}, Two R vs cs → vs[i]? = some v → ∃ c, cs[i]? = some c ∧ R v c
  | _, _, i, v, .nil, h => by simp at h
  | _, _, 0, v, .cons p t, h => by
    simp at h
    subst h
    exact ⟨_, rfl, p⟩
  | _, _, i + 1, v, .cons p t, h => by
    obtain ⟨c, h1, h2⟩ := Two.at (i := i) (v := v) t (by simpa using h)
    exact ⟨c, by simpa using h1, h2⟩
theorem Two.app : ∀ {vs us : List V} {cs ds : List α}, Two R vs cs → Two R us ds → Two R (vs ++ us) (cs ++ ds)
  | _, _, _, _, .nil, q => q
  | _, _, _, _, .cons p t, q => .cons p (t.app q)
theorem Two.take : ∀ {vs : List V} {cs : List α} (i : Nat), Two R vs cs → Two R (vs.take i) (cs.take i)
  | _, _, 0, _ => by rw [List.take_zero, List.take_zero]; exact .nil
  | _, _, _ + 1, .nil => .nil
  | _, _, i + 1, .cons p t => .cons p (t.take i)
theorem Two.drop : ∀ {vs : List V} {cs : List α} (i : Nat), Two R vs cs → Two R (vs.drop i) (cs.drop i)
  | _, _, 0, h => h
  | _, _, _ + 1, .nil => .nil
  | _, _, i + 1, .cons p t => t.drop i
theorem Two.one {v : V} {c : α} (h : R v c) : Two R [v] [c] := .cons h .nil
end
/-- a tuple: one that was made, or a given one -/
def Tp (K : PySem.W.Frag) (H : Hp) (a : Addr) (xs : List V) : Prop := H a = some (.tup xs) ∨ ∀ H', SqT K H' a xs
theorem Tp.seq {K : PySem.W.Frag} {H : Hp} {a : Addr} {xs : List V} (h : Tp K H a xs) : SqT K H a xs := by
  rcases h with h | h
  · exact SqT.of h
  · exact h H
theorem Tp.mono {T : Addr → Prop} {K : PySem.W.Frag} {H H' : Hp} {a : Addr} {xs : List V} (k : Imm T H H') (h : Tp K H a xs) : Tp K H' a xs := by
  rcases h with h | h
  · exact .inl (k _ _ h trivial)
  · exact .inr h
theorem Imm.less {T S : Addr → Prop} {H H' : Hp} (l : ∀ C, S C → T C) (k : Imm T H H') : Imm S H H' := fun b o e i => k b o e (by
  cases o <;> first | exact i | exact l _ i)
theorem op_inK {X : Cx} (K : PySem.W.Frag) (h : X.K = K) : OpR X (compareOp .In) (rIn K false) := h ▸ op_in_seq
theorem op_notInK {X : Cx} (K : PySem.W.Frag) (h : X.K = K) : OpR X (compareOp .NotIn) (rIn K true) := h ▸ op_notIn_seq
/-! ## if: the test's end is told once, for both suites -/
def tIfG (c : TT) (t u : TS) : TS := fun D σ H => ∃ R : Bool → Hp → Prop, c σ H R ∧ ∀ b H', R b H' → if b = true then t D σ H' else u D σ H'
theorem ps_ifG {X : Cx} {c : Expr} {a b : List Stmt} {tc : TT} {t u : TS} {pos : Pos} (hc : PT X c tc) (ha : PSs X a t) (hb : PSs X b u) : PS X (.If c a b pos) (tIfG tc t u) := by
  refine ⟨fun pins s σ H D I h => ?_⟩
  obtain ⟨R, h, k⟩ := h
  refine wpAny_If (thn (hc.run pins s σ H _ I h) fun d s1 ⟨H1, I1, q1⟩ => ?_)
  have k := k d H1 q1
  cases d with
  | true => exact ha.run pins s1 σ H1 D I1 k
  | false => exact hb.run pins s1 σ H1 D I1 k
theorem cutV_neg_to (l : List V) (n : Nat) (h1 : 1 ≤ n) (h2 : n ≤ l.length) : cutV l none (some (-(n : Int))) = l.take (l.length - n) := by
  unfold cutV
  rw [HT.sIx_none, List.drop_zero, Nat.sub_zero]
  congr 1
  show (if -(n : Int) < 0 then (-(n : Int) + (l.length : Int)).toNat else min (-(n : Int)).toNat l.length) = _
  rw [if_pos (by omega)]
  omega
theorem cutV_neg_from (l : List V) (n : Nat) (h1 : 1 ≤ n) (h2 : n ≤ l.length) : cutV l (some (-(n : Int))) none = l.drop (l.length - n) := by
  have e : HT.sIx l.length 0 (some (-(n : Int))) = l.length - n := by
    show (if -(n : Int) < 0 then (-(n : Int) + (l.length : Int)).toNat else min (-(n : Int)).toNat l.length) = _
    rw [if_pos (by omega)]
    omega
  unfold cutV
  rw [HT.sIx_none, e, List.take_of_length_le (by rw [List.length_drop]; omega)]
end Ru

set_option Elab.async false
set_option linter.all false
set_option maxRecDepth 100000
/-! len(set(xs)), xs a list or a tuple of texts, any of them twice -/
namespace Ru
open PySem PySem.Spec PyProof.Rows
/-- how many unlike ones stand among the first i -/
def cntS (xs : List Str) : Nat → Nat
  | 0 => 0
  | i + 1 => if (xs.take i).any (· == xs.getD i Str.empty) = true then cntS xs i else cntS xs i + 1
theorem cntS_le (xs : List Str) : ∀ i, cntS xs i ≤ i
  | 0 => Nat.le_refl _
  | i + 1 => by
    have := cntS_le xs i
    rw [cntS]
    split <;> omega
theorem cntS_take (xs : List Str) : ∀ i, i ≤ xs.length → (cntS xs i = i ↔ (xs.take i).Nodup)
  | 0, _ => by simp [cntS]
  | i + 1, h => by
    have ih := cntS_take xs i (by omega)
    have hl := cntS_le xs i
    have e1 : xs.getD i Str.empty = xs[i] := by rw [List.getD_eq_getElem?_getD, List.getElem?_eq_getElem (by omega)]; rfl
    have e2 : xs.take (i + 1) = xs.take i ++ [xs[i]] := by rw [List.take_add_one, List.getElem?_eq_getElem (by omega)]; rfl
    rw [cntS, e1, e2, List.nodup_append]
    by_cases hm : xs[i] ∈ xs.take i
    · have ha : ((xs.take i).any fun x => x == xs[i]) = true := List.any_eq_true.mpr ⟨_, hm, beq_self_eq_true _⟩
      rw [if_pos ha]
      constructor
      · intro q; omega
      · intro q; exact absurd rfl (q.2.2 _ hm _ (List.mem_singleton.mpr rfl))
    · have ha : ¬ ((xs.take i).any fun x => x == xs[i]) = true := fun q => by
        obtain ⟨y, hy, ey⟩ := List.any_eq_true.mp q
        rw [eq_of_beq ey] at hy
        exact hm hy
      rw [if_neg ha]
      constructor
      · intro q
        refine ⟨ih.mp (by omega), by simp, fun a ha b hb e => ?_⟩
        rw [List.mem_singleton.mp hb] at e
        exact hm (e ▸ ha)
      · intro q
        have := ih.mpr q.1
        omega
theorem cntS_all (xs : List Str) : cntS xs xs.length = xs.length ↔ xs.Nodup := by
  have := cntS_take xs xs.length (Nat.le_refl _)
  rwa [List.take_length] at this
section
variable {prog : Program} {w : World} {A : Around} {I : Addr} {fp wr : List Addr} {n : Nat} {P : Nat → Value → Prop} {St : Nat → Heap → Prop}
/-- the set at S bears the first i of xs -/
def BearsS (prog : Program) (w : World) (h : Heap) (S : Addr) (xs : List Str) (i : Nat) : Prop := h.SetOf (PySem.strKind prog w) S (fun z => (xs.take i).any (· == z)) (cntS xs i)
theorem BearsS.keep {h h' : Heap} {S : Addr} {xs : List Str} {i : Nat} (q : BearsS prog w h S xs i) (k : ∀ o, h.get? S = some o → h'.get? S = some o) : BearsS prog w h' S xs i := by
  obtain ⟨o, es, ep, t, ho, r⟩ := q
  exact ⟨o, es, ep, t, k o ho, r⟩
theorem any_snoc (l : List Str) (x z : Str) : (l ++ [x]).any (· == z) = (l.any (· == z) || decide (z = x)) := by
  rw [List.any_append]
  congr 1
  by_cases e : z = x
  · subst e; simp
  · rw [decide_eq_false e]
    simp only [List.any_cons, List.any_nil, Bool.or_false]
    exact beq_eq_false_iff_ne.mpr fun q => e q.symm
/-- the loop of set.update over n texts -/
theorem loopTexts (W : Walks prog w A.in1 I fp wr n P St) (S : Addr) (hSf : S ∉ fp) (xs : List Str) (hsz : xs.length = n) (hn1 : n + 1 < scanBound) (hval : ∀ i v, P i v → ∃ t, v = .str (xs.getD i Str.empty) t)
    {R : Result → Shared → Prop} : ∀ (k i : Nat) (s : Shared), i + k = n → St i s.heap → BearsS prog w s.heap S xs i →
      (∀ h' tk, BearsS prog w h' S xs n → (∀ b o, b ≠ S → b ∉ wr → s.heap.get? b = some o → h'.get? b = some o) → R (.ok (.ret .none)) { s with heap := h', toks := tk }) →
      codeAny (model prog w) A (.builtin "set.update.loop" ⟨[.ref S, .ref I], []⟩) R s
  | 0, i, s, hk, hst, hS, hR => by
    obtain rfl : i = n := by omega
    refine codeAny_builtin PyProof.Rows.F.entry_set_update_loop ?_
    rw [Around.under_plainId PyProof.Rows.F.plain_set_update_loop _]
    show wpAny _ A.in1 (pyNext (.ref I) >>= _) _ _ s
    refine wpAny_bind (W.done s _ _ hst fun h' tk hm => ?_)
    show wpAny _ A.in1 (ret Value.none) _ _ _
    exact wpAny_pure (hR h' tk (hS.keep fun o e => hm S o (fun q => hSf (W.sub _ q)) e) fun b o _ hb e => hm b o hb e)
  | k + 1, i, s, hk, hst, hS, hR => by
    have hlt : i < xs.length := by omega
    refine codeAny_builtin PyProof.Rows.F.entry_set_update_loop ?_
    rw [Around.under_plainId PyProof.Rows.F.plain_set_update_loop _]
    show wpAny _ A.in1 (pyNext (.ref I) >>= _) _ _ s
    refine wpAny_bind (W.item i s _ _ (by omega) hst fun v h1 tk1 hP st1 hm => ?_)
    obtain ⟨t, rfl⟩ := hval i v hP
    have hS1 : BearsS prog w h1 S xs i := hS.keep fun o e => hm S o (fun q => hSf (W.sub _ q)) e
    show wpAny _ A.in1 (holding [Value.str (xs.getD i Str.empty) t] (setAdd S (.str (xs.getD i Str.empty) t)) >>= _) _ _ _
    refine wpAny_bind (wpAny_holding ?_)
    unfold setAdd
    refine wpAny_holding (wpAny_bind ((PySem.strKind prog w).pyHash (k := xs.getD i Str.empty) (PySem.strKind_is _ _ _ _) ?_))
    have hc := cntS_le xs i
    refine wpAny_setAddHashed_of (knd := PySem.strKind prog w) (PySem.strKind_is _ _ _ _) rfl hS1 (by unfold scanBound at hn1 ⊢; omega) fun h2 sb new => ?_
    have e1 : xs.take (i + 1) = xs.take i ++ [xs.getD i Str.empty] := by
      rw [List.take_add_one, List.getD_eq_getElem?_getD, List.getElem?_eq_getElem hlt]
      rfl
    have hS2 : BearsS prog w h2 S xs (i + 1) := by
      refine PyProof.Rows.SetOf_congr new (fun z => ?_) ?_
      · rw [e1, any_snoc]
      · rw [cntS]
    refine wpAny_pure ⟨plainId_quiet PyProof.Rows.F.plain_set_update_loop _, loopTexts W S hSf xs hsz hn1 hval k (i + 1) _ (by omega) (W.frame _ h1 _ st1 fun b hb o e => ?_) hS2 fun h3 tk3 hS3 hm3 => ?_⟩
    · exact (sb.2 b fun q => hSf (q ▸ hb)).trans e
    · exact hR h3 tk3 hS3 fun b o n1 n2 e => hm3 b o n1 n2 ((sb.2 b n1).trans (hm b o n2 e))
end
section
variable {prog : Program} {w : World} {A : Around} {E : Value → Shared → Prop} {s : Shared}
set_option maxHeartbeats 3200000 in
/-- set(xs), xs the list or the tuple at l -/
theorem call_setTexts {l : Addr} {items : Array Value} {xs : List Str} {Q : Value → Shared → Prop} (hh : A.handled = none) (hl : s.heap.IsList l items ∨ s.heap.IsTuple l items) (hi : PyProof.Rows.StrsAre items.toList xs) (hn1 : xs.length + 1 < scanBound)
    (h : ∀ (h' : Heap) (tk : Nat), BearsS prog w h' s.heap.objs.size xs xs.length → (∀ b o, b < s.heap.objs.size → s.heap.get? b = some o → h'.get? b = some o) → Q (.ref s.heap.objs.size) { s with heap := h', toks := tk }) :
    wpAny (model prog w) A (call (.type "set") [.ref l]) Q E s := by
  have hlen : xs.length = items.size := by rw [← PyProof.Rows.StrsAre.len_eq hi, Array.length_toList]
  have hval : ∀ (i : Nat) (v : Value), items[i]? = some v → ∃ t, v = .str (xs.getD i Str.empty) t := fun i v hv => SS.strs_at hi i v (by rw [Array.getElem?_toList]; exact hv)
  obtain ⟨c, tl, hmro⟩ := PySem.F.called_set.mro
  have hmade := PySem.F.called_set.made
  have hsub := PySem.F.called_set.sub
  refine wpAny_call (codeAny_of_tree ?_)
  show wpAny _ _ (callAny (.type "set") _) _ _ _
  refine wpAny_pure ⟨Code.quiet_builtin _ (by decide +kernel), codeAny_builtin PySem.F.entry_type_call ?_⟩
  rw [Around.under_plain (weight_type_call_type "set" [.ref l] []) rfl]
  have h1 := PySem.F.called_set.notType
  have h2 := PySem.F.called_set.canCreate
  have hct := PySem.F.typeCall_set_1 (.ref l)
  repeat (any_goals (first | assumption | wp_step))
  refine codeAny_mono (code_set_new_1 (.ref l) (E := E) (Q₁ := fun obj s₁ => ∃ led : Bool, obj = .ref s.heap.objs.size ∧ s₁ = { s with heap := s.heap.push { cls := .type "set", dict := none, data := .set #[] 0 (.fresh 0 0 led) } }) fun led => ⟨led, rfl, rfl⟩) fun r s₁ hr => ?_
  match r, hr with
  | .error e, hr => exact hr
  | .ok .next, hr => exact hr.elim
  | .ok .brk, hr => exact hr.elim
  | .ok .cont, hr => exact hr.elim
  | .ok (.ret obj), hr =>
    obtain ⟨led, rfl, rfl⟩ := hr
    have hS : (s.heap.push { cls := .type "set", dict := none, data := .set #[] 0 (.fresh 0 0 led) }).get? s.heap.objs.size = some { cls := .type "set", dict := none, data := .set #[] 0 (.fresh 0 0 led) } := Heap.get?_push_size _ rfl
    generalize eS : ({ cls := .type "set", dict := none, data := .set #[] 0 (.fresh 0 0 led) } : Obj) = oS at hS ⊢
    have hT : Shared.TypeIs { s with heap := s.heap.push oS } (.ref s.heap.objs.size) "set" := ⟨_, hS, by rw [← eS]⟩
    have hli := PySem.F.called_set.init.lookup
    have hbi := PySem.F.called_set.init.bind (.ref s.heap.objs.size)
    have hh3 : A.in1.in1.in1.handled = none := by simp [hh]
    repeat (any_goals (first | assumption | wp_step))
    refine codeAny_mono (codeAny_call_builtin (R := wants (fun r s₂ => r = .none ∧ ∃ h' tk, s₂ = { s with heap := h', toks := tk } ∧ BearsS prog w h' s.heap.objs.size xs xs.length ∧
        (∀ b o, b < s.heap.objs.size → s.heap.get? b = some o → h'.get? b = some o)) E) PySem.F.called_set.init.plain PySem.F.entry_set_init (check_set_init_1 hT ?_)) fun r₂ s₂ hr₂ => ?_
    · have fin : ∀ (oi : Obj) {St : Nat → Heap → Prop}, l < s.heap.objs.size → Walks prog w A.in1.in1.in1 (s.heap.push oS).objs.size [(s.heap.push oS).objs.size, l] [(s.heap.push oS).objs.size] items.size (fun i v => items[i]? = some v) St →
          St 0 ((s.heap.push oS).push oi) → ∀ R : Result → Shared → Prop, (∀ h' tk, BearsS prog w h' s.heap.objs.size xs xs.length → (∀ b o, b < s.heap.objs.size → s.heap.get? b = some o → h'.get? b = some o) → R (.ok (.ret .none)) { s with heap := h', toks := tk }) →
          codeAny (model prog w) A.in1.in1 (.builtin "set.update.loop" ⟨[.ref s.heap.objs.size, .ref (s.heap.push oS).objs.size], []⟩) R { s with heap := (s.heap.push oS).push oi } := by
        intro oi St hlS W st R hR
        have hz : (s.heap.push oS).objs.size = s.heap.objs.size + 1 := Heap.size_push ..
        have hget : ((s.heap.push oS).push oi).get? s.heap.objs.size = some oS := Heap.get?_push_of_some _ hS
        have nS : s.heap.objs.size ∉ [(s.heap.push oS).objs.size, l] := by
          rw [hz]
          simp only [List.mem_cons, List.not_mem_nil, or_false, not_or]
          exact ⟨Nat.ne_of_lt (Nat.lt_succ_self _), Nat.ne_of_gt hlS⟩
        refine loopTexts W s.heap.objs.size nS xs hlen (by rw [← hlen]; exact hn1) hval items.size 0 _ (by omega) st ?_ fun h' tk hb hk => ?_
        · subst eS
          exact PyProof.Rows.SetOf_congr ((PyProof.Rows.setObjOf_fresh (knd := PySem.strKind prog w) led).setOf hget (by unfold scanBound; omega)) (fun _ => rfl) rfl
        · rw [← hlen] at hb
          refine hR h' tk hb fun b o hlt e => hk b o (Nat.ne_of_lt hlt) (by rw [hz]; simp only [List.mem_cons, List.not_mem_nil, or_false]; exact Nat.ne_of_lt (Nat.lt_succ_of_lt hlt)) (Heap.get?_push_of_some _ (Heap.get?_push_of_some _ e))
      have hne1 : ∀ {c : Addr}, c < s.heap.objs.size → c ≠ (s.heap.push oS).objs.size := fun hc => by
        rw [Heap.size_push]; exact Nat.ne_of_lt (Nat.lt_succ_of_lt hc)
      rcases hl with hl | hl
      · obtain ⟨ol, hol, hcl, nl, hdl⟩ := hl
        obtain ⟨ocls, odict, odata, oslots⟩ := ol
        simp only at hcl hdl
        subst hcl hdl
        have hol' := Heap.get?_push_of_some oS hol
        have hl1 : (s.heap.push oS).IsList l items := ⟨_, hol', rfl, nl, rfl⟩
        have hlS : l < s.heap.objs.size := Heap.lt_size hol
        have k1 := PySem.F.sub_list_set
        have k2 := PySem.F.sub_list_frozenset
        have k3 : (Value.type "list" == Value.type "dict") = false := by decide
        subst eS
        unfold Builtin.«set.__init__» noKeywords Builtin.Frozenset.updateFrom
        generalize hPI : pyIter = PI
        wp_walk
        subst hPI
        refine wpAny_pyIter_list hl1 ?_
        refine wpAny_bind (wpAny_runValue ?_)
        refine fin _ hlS (Walks.list hh3 _ l (hne1 hlS) items) ⟨⟨_, Heap.get?_push_size _ rfl, rfl, rfl⟩, (hl1.push _)⟩ _ fun h' tk hb hk => ?_
        show wpAny _ _ _ _ _ _
        refine wpAny_pure ?_
        show wpAny _ _ (ret Value.none) _ _ _
        exact wpAny_pure ⟨rfl, h', tk, rfl, hb, hk⟩
      · obtain ⟨ol, hol, hcl, nl, hdl⟩ := hl
        obtain ⟨ocls, odict, odata, oslots⟩ := ol
        simp only at hcl hdl
        subst hcl hdl
        have hol' := Heap.get?_push_of_some oS hol
        have hl1 : (s.heap.push oS).IsTuple l items := ⟨_, hol', rfl, nl, rfl⟩
        have hlS : l < s.heap.objs.size := Heap.lt_size hol
        have k1 := PySem.F.sub_tuple_set
        have k2 := PySem.F.sub_tuple_frozenset
        have k3 : (Value.type "tuple" == Value.type "dict") = false := by decide
        subst eS
        unfold Builtin.«set.__init__» noKeywords Builtin.Frozenset.updateFrom
        generalize hPI : pyIter = PI
        wp_walk
        subst hPI
        refine wpAny_pyIter_tuple hl1 ?_
        refine wpAny_bind (wpAny_runValue ?_)
        refine fin _ hlS (Walks.tuple hh3 _ l (hne1 hlS) items) ⟨⟨_, Heap.get?_push_size _ rfl, rfl, rfl⟩, (hl1.push _)⟩ _ fun h' tk hb hk => ?_
        show wpAny _ _ _ _ _ _
        refine wpAny_pure ?_
        show wpAny _ _ (ret Value.none) _ _ _
        exact wpAny_pure ⟨rfl, h', tk, rfl, hb, hk⟩
    · match r₂, hr₂ with
      | .error e, hr₂ => exact hr₂
      | .ok .next, hr₂ => exact hr₂.elim
      | .ok .brk, hr₂ => exact hr₂.elim
      | .ok .cont, hr₂ => exact hr₂.elim
      | .ok (.ret r), hr₂ =>
        obtain ⟨rfl, h', tk, rfl, hS', hk'⟩ := hr₂
        repeat (any_goals (first | assumption | wp_step))
        exact h _ _ hS' hk'
end
/-! ### len(set(xs)) -/
def tLenSetS (K : PySem.W.Frag) (ta : L2.TE) : L2.TE := fun σ H Q => ta σ H fun x H1 => ∃ l, ∃ xs : List Str, x = .ref l ∧ (L2.SqL K H1 l (xs.map L2.V.str) ∨ L2.SqT K H1 l (xs.map L2.V.str)) ∧ xs.length ≤ 1000 ∧ ∀ n : Nat, n ≤ xs.length → (n = xs.length ↔ xs.Nodup) → Q (.int n) H1
open L2 in
theorem pe_lenSetS {X : Cx} {a : Expr} {ta : TE} {p p2 q pos : Pos} (hc : X.calm = true) (hg : Gl X "len") (hm : X.mg "len" = none) (hg2 : Gl X "set") (hm2 : X.mg "set" = none) (ha : PE X a ta)
    (na : starEach [a] X.env = (false, eval a X.env) :: starEach [] X.env := by rfl) : PE X (.Call (.Name "len" p) [.Call (.Name "set" p2) [a] [] q] [] pos) (tLenSetS X.K ta) := by
  refine ⟨fun pins s σ H Q I h => ?_⟩
  refine Call_ (ld_blt I hg hm boot_len ?_)
  refine PyProof.Rows.callWith_builtin1 (PyProof.Rows.args_cons ?_ rfl) rfl rfl
  refine Call_ (ld_blt I hg2 hm2 boot_set ?_)
  refine PyProof.Rows.callWith_type1 (PyProof.Rows.args_cons (thn (ha.run pins s σ H _ I h) fun v s1 ⟨x, H1, I1, r1, q1⟩ => PyProof.Rows.args_nil ?_) na) na rfl
  obtain ⟨l, xs, rfl, hq, hn, q1⟩ := q1
  cases r1
  have fin : ∀ (h' : Heap) (tk : Nat), BearsS X.prog X.w h' s1.heap.objs.size xs xs.length → (∀ b o, b < s1.heap.objs.size → s1.heap.get? b = some o → h'.get? b = some o) →
      wpAny (model X.prog X.w) X.A (spliced (backTo pos (starEach [] X.env))) (fun vs s₂ => wpAny (model X.prog X.w) X.A (call (.builtin "len") (Value.ref s1.heap.objs.size :: vs)) (EP X pins σ Q) X.xe s₂) X.xe { s1 with heap := h', toks := tk } := by
    intro h' tk hS hk
    refine PyProof.Rows.args_nil ?_
    obtain ⟨o, es, ep, t, ho, hex, hd, _, _, _, hf, hcn⟩ := hS
    have I2 : Inv X pins σ H1 { s1 with heap := h', toks := tk } := I1.kept fun b o e => hk b o (Heap.lt_size e) e
    have hle := cntS_le xs xs.length
    refine call_len_set ho hex hd hf (by rw [hcn]; omega) ⟨.int (cntS xs xs.length : Nat), H1, I2.tok _, ⟨_, by rw [hcn]⟩, q1 _ hle (cntS_all xs)⟩
  have hb : xs.length + 1 < scanBound := by unfold scanBound; omega
  rcases hq with hq | hq
  · obtain ⟨its, r, pl, hz⟩ := I1.list hq
    exact call_setTexts (I1.ok.hd hc) (.inl pl.isList) (by simpa using strsAre_of r) hb fin
  · obtain ⟨its, r, pl, hz⟩ := I1.tuple hq
    exact call_setTexts (I1.ok.hd hc) (.inr pl) (by simpa using strsAre_of r) hb fin
end Ru

set_option Elab.async false
set_option linter.all false
set_option maxRecDepth 100000
set_option maxHeartbeats 2000000
/-! zip of a tuple and a list: by what each iterator's next does, whichever it is -/
namespace Ru
open PySem PySem.Spec PyProof.Rows L2
/-- the iterator at i over ys, which stand at l; P: it stands at a place -/
structure Dr (prog : Program) (w : World) (i l : Addr) (ys : Array Value) (P : Heap → Nat → Prop) : Prop where
  keep : ∀ {e : Addr} {h h' : Heap} {k : Nat}, P h k → Heap.ExtBut e h h' → i ≠ e → l ≠ e → P h' k
  item : ∀ {A : Around} {E : Value → Shared → Prop} {s : Shared} {k : Nat} {y : Value} {Q : Value → Shared → Prop}, P s.heap k → ys[k]? = some y →
    (∀ h', P h' (k + 1) → Heap.SameBut i s.heap h' → Q y { s with heap := h' }) → wpAny (model prog w) A (Builtin.SmallTypes.nextOf (.ref i)) Q E s
  stop : ∀ {A : Around} {E : Value → Shared → Prop} {s : Shared} {k : Nat} {Q : Value → Shared → Prop}, A.handled = none → P s.heap k → ys[k]? = none →
    (∀ h' e, Heap.ExtBut i s.heap h' → (∃ o, h'.get? e = some o ∧ o.cls = .type "StopIteration") → E (.ref e) { s with heap := h' }) → wpAny (model prog w) A (Builtin.SmallTypes.nextOf (.ref i)) Q E s
theorem dr_tup {prog : Program} {w : World} {i l : Addr} {ys : Array Value} (n : l ≠ i) : Dr prog w i l ys fun h k => h.IsTupleIter i l k ∧ h.IsTuple l ys :=
  ⟨fun p x n1 n2 => ⟨p.1.extBut x n1, p.2.extBut x n2⟩, fun p hy q => RZ.nextOf_tuple_item p.1 p.2 hy fun h' a b => q h' ⟨a, p.2.extBut b.extBut n⟩ b, fun hh p hy q => RZ.nextOf_tuple_end hh p.1 p.2 hy q⟩
theorem dr_lst {prog : Program} {w : World} {i l : Addr} {ys : Array Value} (n : l ≠ i) : Dr prog w i l ys fun h k => h.IsListIter i l k ∧ h.IsList l ys :=
  ⟨fun p x n1 n2 => ⟨p.1.extBut x n1, p.2.extBut x n2⟩, fun p hy q => wpAny_nextOf_list_item p.1 p.2 hy fun h' a b => q h' ⟨a, p.2.extBut b.extBut n⟩ b, fun hh p hy q => wpAny_nextOf_list_end hh p.1 p.2 hy q⟩
section
variable {prog : Program} {w : World} {A : Around} {E : Value → Shared → Prop} {s : Shared} {z TI TO i1 i2 l1 l2 : Addr} {k1 k2 : Nat} {xs ys : Array Value} {x y a b : Value} {P1 P2 : Heap → Nat → Prop}
/-- the zip at z, its parts, as they stand -/
structure Zst (h : Heap) (z TI TO i1 i2 : Addr) (a b : Value) (f : Value) : Prop where
  z : IsZip h z TI TO f
  ti : IsPair h TI (.ref i1) (.ref i2)
  to : IsPair h TO a b
theorem zipD_item {Q : Value → Shared → Prop} (d1 : Dr prog w i1 l1 xs P1) (d2 : Dr prog w i2 l2 ys P2) (D : ZipApart z TI TO i1 i2 l1 l2) (g : Zst s.heap z TI TO i1 i2 a b .none) (p1 : P1 s.heap k1) (p2 : P2 s.heap k2) (hx : xs[k1]? = some x) (hy : ys[k2]? = some y)
    (q : ∀ h', Zst h' z TI TO i1 i2 x y (rawInt s.heap.objs.size) → P1 h' (k1 + 1) → P2 h' (k2 + 1) → IsPair h' s.heap.objs.size x y → (∀ c o, c ≠ z → c ≠ TO → c ≠ i1 → c ≠ i2 → s.heap.get? c = some o → h'.get? c = some o) → Q (.ref s.heap.objs.size) { s with heap := h' })
    (hl1 : l1 < s.heap.objs.size) (hl2 : l2 < s.heap.objs.size) (hi1 : i1 < s.heap.objs.size) (hi2 : i2 < s.heap.objs.size) :
    wpAny (model prog w) A (Builtin.«zip.__next__» ⟨[.ref z], []⟩) (fun fin s' => ∃ v, fin = .done (.ret v) ∧ Q v s') E s := by
  obtain ⟨gz, gi, go⟩ := g
  show wpAny _ _ (field (.ref z) 2 >>= fun _ => _) _ _ s
  refine wpAny_bind (wpAny_field gz rfl (x := .bool false) rfl (wpAny_bind (wpAny_field gz rfl (x := .ref TI) rfl (wpAny_bind (wpAny_seqItems gi rfl (wpAny_bind ?_))))))
  unfold Builtin.SmallTypes.ownedTupleIsFree
  refine wpAny_bind (wpAny_field gz rfl (x := .none) rfl (wpAny_pure ?_))
  rw [if_pos rfl]
  refine wpAny_bind (wpAny_rule (wpAny_bind (wpAny_field gz rfl (x := .ref TO) rfl (wpAny_bind (wpAny_setField_rec gz (by simp) fun ha za sa => ?_)))))
  have za : IsZip ha z TI TO .ellipsis := za
  have p1a := d1.keep p1 sa.extBut D.i1z D.l1z
  have p2a := d2.keep p2 sa.extBut D.i2z D.l2z
  refine wpAny_bind ?_
  simp only [List.zipIdx_cons, List.zipIdx_nil, List.forIn_cons, List.forIn_nil]
  -- the first one
  refine wpAny_bind (wpAny_bind (wpAny_onRaise ?_))
  show wpAny _ _ (Builtin.SmallTypes.nextOf (.ref i1) >>= fun _ => _) _ _ { s with heap := ha }
  refine wpAny_bind (d1.item (s := { s with heap := ha }) p1a hx fun hb p1b sb => wpAny_pure ?_)
  have ob : IsPair hb TO a b := sb.extBut _ _ D.TOi1 (sa.extBut _ _ D.TOz go)
  refine wpAny_bind (wpAny_seqItems ob rfl (wpAny_bind (wpAny_updateSeq_pair ob fun hc oc sc => wpAny_bind (wpAny_letGo (wpAny_pure ?_)))))
  have oc : IsPair hc TO x b := oc
  have p2c := d2.keep (d2.keep p2a sb.extBut D.i12.symm D.l2i1) sc.extBut D.TOi2.symm D.l2TO
  have p1c := d1.keep p1b sc.extBut D.TOi1.symm D.l1TO
  -- the second one
  refine wpAny_bind (wpAny_bind (wpAny_onRaise ?_))
  show wpAny _ _ (Builtin.SmallTypes.nextOf (.ref i2) >>= fun _ => _) _ _ { s with heap := hc }
  refine wpAny_bind (d2.item (s := { s with heap := hc }) p2c hy fun hd p2d sd => wpAny_pure ?_)
  have od : IsPair hd TO x b := sd.extBut _ _ D.TOi2 oc
  refine wpAny_bind (wpAny_seqItems od rfl (wpAny_bind (wpAny_updateSeq_pair od fun he oe se => wpAny_bind (wpAny_letGo (wpAny_pure (wpAny_pure ?_))))))
  have oe : IsPair he TO x y := oe
  have p1e := d1.keep (d1.keep p1c sd.extBut D.i12 D.l1i2) se.extBut D.TOi1.symm D.l1TO
  have p2e := d2.keep p2d se.extBut D.TOi2.symm D.l2TO
  have ze : IsZip he z TI TO .ellipsis := se.extBut _ _ D.TOz.symm (sd.extBut _ _ D.i2z.symm (sc.extBut _ _ D.TOz.symm (sb.extBut _ _ D.i1z.symm za)))
  have ke : ∀ c o, c ≠ z → c ≠ TO → c ≠ i1 → c ≠ i2 → s.heap.get? c = some o → he.get? c = some o := fun c o n1 n2 n3 n4 e => se.extBut _ _ n2 (sd.extBut _ _ n4 (sc.extBut _ _ n2 (sb.extBut _ _ n3 (sa.extBut _ _ n1 e))))
  have size : he.objs.size = s.heap.objs.size := by rw [se.1, sd.1, sc.1, sb.1, sa.1]
  refine wpAny_bind (wpAny_seqItems oe rfl (wpAny_bind (wpAny_newTuple ?_)))
  show wpAny _ _ (Builtin.SmallTypes.ownedTupleHandOut (.ref z) (.ref he.objs.size) >>= fun _ => _) _ _ _
  refine wpAny_bind ?_
  unfold Builtin.SmallTypes.ownedTupleHandOut
  have zf : IsZip (he.push { cls := .type "tuple", data := .seq #[x, y] }) z TI TO .ellipsis := Heap.get?_push_of_some _ ze
  refine wpAny_bind (wpAny_setField_rec zf (by simp) fun hg zg sg => ?_)
  have zg : IsZip hg z TI TO (rawInt he.objs.size) := zg
  refine wpAny_setField_rec zg (by simp) fun hk zk sk => wpAny_pure ⟨_, rfl, ?_⟩
  have zk : IsZip hk z TI TO (rawInt he.objs.size) := zk
  have up : ∀ c o, c ≠ z → he.get? c = some o → hk.get? c = some o := fun c o n e => sk.extBut _ _ n (sg.extBut _ _ n (Heap.get?_push_of_some _ e))
  have zlt : z < he.objs.size := Heap.lt_size ze
  have tk : IsPair hk he.objs.size x y := sk.extBut _ _ (Nat.ne_of_gt zlt) (sg.extBut _ _ (Nat.ne_of_gt zlt) (Heap.get?_push_size _ rfl))
  have ext : Heap.ExtBut z he hk := fun c o n e => up c o n e
  have ti : IsPair hk TI (.ref i1) (.ref i2) := up _ _ D.TIz (ke _ _ D.TIz D.TITO D.TIi1 D.TIi2 gi)
  rw [size] at zk tk
  show Q (.ref he.objs.size) _
  rw [size]
  exact q hk ⟨zk, ti, up _ _ D.TOz oe⟩ (d1.keep p1e ext D.i1z D.l1z) (d2.keep p2e ext D.i2z D.l2z) tk fun c o n1 n2 n3 n4 e => up c o n1 (ke c o n1 n2 n3 n4 e)
theorem zipD_stop {Q : PySem.Fin → Shared → Prop} (hh : A.handled = none) (d1 : Dr prog w i1 l1 xs P1) (d2 : Dr prog w i2 l2 ys P2) (D : ZipApart z TI TO i1 i2 l1 l2) (g : Zst s.heap z TI TO i1 i2 a b .none) (p1 : P1 s.heap k1) (p2 : P2 s.heap k2) (hend : xs[k1]? = none ∨ ys[k2]? = none)
    (q : ∀ h' e, (∀ c o, c ≠ z → c ≠ TO → c ≠ i1 → c ≠ i2 → s.heap.get? c = some o → h'.get? c = some o) → (∃ o, h'.get? e = some o ∧ o.cls = .type "StopIteration") → E (.ref e) { s with heap := h' }) :
    wpAny (model prog w) A (Builtin.«zip.__next__» ⟨[.ref z], []⟩) Q E s := by
  obtain ⟨gz, gi, go⟩ := g
  show wpAny _ _ (field (.ref z) 2 >>= fun _ => _) _ _ s
  refine wpAny_bind (wpAny_field gz rfl (x := .bool false) rfl (wpAny_bind (wpAny_field gz rfl (x := .ref TI) rfl (wpAny_bind (wpAny_seqItems gi rfl (wpAny_bind ?_))))))
  unfold Builtin.SmallTypes.ownedTupleIsFree
  refine wpAny_bind (wpAny_field gz rfl (x := .none) rfl (wpAny_pure ?_))
  rw [if_pos rfl]
  refine wpAny_bind (wpAny_rule (wpAny_bind (wpAny_field gz rfl (x := .ref TO) rfl (wpAny_bind (wpAny_setField_rec gz (by simp) fun ha za sa => ?_)))))
  have za : IsZip ha z TI TO .ellipsis := za
  have p1a := d1.keep p1 sa.extBut D.i1z D.l1z
  have p2a := d2.keep p2 sa.extBut D.i2z D.l2z
  -- the zip is free again, and what next raised goes out
  have out : ∀ {h : Heap} {e : Addr} {R : Unit → Shared → Prop}, IsZip h z TI TO .ellipsis → (∃ o, h.get? e = some o ∧ o.cls = .type "StopIteration") → (∀ c o, c ≠ z → c ≠ TO → c ≠ i1 → c ≠ i2 → s.heap.get? c = some o → h.get? c = some o) →
      (∀ h', R () { s with heap := h' } → True) → (∀ h', (∀ c o, c ≠ z → c ≠ TO → c ≠ i1 → c ≠ i2 → s.heap.get? c = some o → h'.get? c = some o) → (∃ o, h'.get? e = some o ∧ o.cls = .type "StopIteration") → R () { s with heap := h' }) →
      wpAny (model prog w) A (setField (.ref z) 0 .none) R E { s with heap := h } := by
    intro h e R gz ⟨oe, he, hc⟩ kp _ r
    have nz : e ≠ z := fun q => by
      rw [q, gz] at he
      cases he
      exact absurd hc (by simp)
    exact wpAny_setField_rec gz (by simp) fun h' _ sh => r h' (fun c o n1 n2 n3 n4 u => sh.extBut _ _ n1 (kp c o n1 n2 n3 n4 u)) ⟨oe, sh.extBut _ _ nz he, hc⟩
  refine wpAny_bind ?_
  simp only [List.zipIdx_cons, List.zipIdx_nil, List.forIn_cons, List.forIn_nil]
  refine wpAny_bind (wpAny_bind (wpAny_onRaise ?_))
  show wpAny _ _ (Builtin.SmallTypes.nextOf (.ref i1) >>= fun _ => _) _ _ { s with heap := ha }
  cases hx : xs[k1]? with
  | none =>
    refine wpAny_bind (d1.stop (s := { s with heap := ha }) hh p1a hx fun hb e sb st => ?_)
    exact out (sb _ _ D.i1z.symm za) st (fun c o n1 _ n3 _ u => sb _ _ n3 (sa.extBut _ _ n1 u)) (fun _ _ => trivial) fun h' kp st' => q h' e kp st'
  | some x =>
    have hy : ys[k2]? = none := hend.resolve_left fun u => by rw [hx] at u; cases u
    refine wpAny_bind (d1.item (s := { s with heap := ha }) p1a hx fun hb p1b sb => wpAny_pure ?_)
    have ob : IsPair hb TO a b := sb.extBut _ _ D.TOi1 (sa.extBut _ _ D.TOz go)
    refine wpAny_bind (wpAny_seqItems ob rfl (wpAny_bind (wpAny_updateSeq_pair ob fun hc oc sc => wpAny_bind (wpAny_letGo (wpAny_pure ?_)))))
    have p2c := d2.keep (d2.keep p2a sb.extBut D.i12.symm D.l2i1) sc.extBut D.TOi2.symm D.l2TO
    refine wpAny_bind (wpAny_bind (wpAny_onRaise ?_))
    show wpAny _ _ (Builtin.SmallTypes.nextOf (.ref i2) >>= fun _ => _) _ _ { s with heap := hc }
    refine wpAny_bind (d2.stop (s := { s with heap := hc }) hh p2c hy fun hd e sd st => ?_)
    exact out (sd _ _ D.i2z.symm (sc.extBut _ _ D.TOz.symm (sb.extBut _ _ D.i1z.symm za))) st (fun c o n1 n2 n3 n4 u => sd _ _ n4 (sc.extBut _ _ n2 (sb.extBut _ _ n3 (sa.extBut _ _ n1 u)))) (fun _ _ => trivial) fun h' kp st' => q h' e kp st'
theorem pyNext_zipD_item {Q : Option Value → Shared → Prop} (d1 : Dr prog w i1 l1 xs P1) (d2 : Dr prog w i2 l2 ys P2) (D : ZipApart z TI TO i1 i2 l1 l2) (g : Zst s.heap z TI TO i1 i2 a b .none) (p1 : P1 s.heap k1) (p2 : P2 s.heap k2) (hx : xs[k1]? = some x) (hy : ys[k2]? = some y)
    (q : ∀ h', Zst h' z TI TO i1 i2 x y (rawInt s.heap.objs.size) → P1 h' (k1 + 1) → P2 h' (k2 + 1) → IsPair h' s.heap.objs.size x y → (∀ c o, c ≠ z → c ≠ TO → c ≠ i1 → c ≠ i2 → s.heap.get? c = some o → h'.get? c = some o) → Q (some (.ref s.heap.objs.size)) { s with heap := h' })
    (hl1 : l1 < s.heap.objs.size) (hl2 : l2 < s.heap.objs.size) (hi1 : i1 < s.heap.objs.size) (hi2 : i2 < s.heap.objs.size) : wpAny (model prog w) A (pyNext (.ref z)) Q E s := by
  have ty : s.TypeIs (.ref z) "zip" := ⟨_, g.z, rfl⟩
  unfold pyNext
  refine wpAny_bind (wpAny_attempt (wpAny_callSpecial?_slot (name := Str.ofString "__next__") ty PySem.F.slot_zip_next (wpAny_call_entry PySem.F.slot_zip_next ty PySem.F.entry_zip_next ?_ (PySem.F.args_zip_next_1 _))))
  exact zipD_item d1 d2 D g p1 p2 hx hy (fun h' a1 a2 a3 a4 a5 => wpAny_pure (q h' a1 a2 a3 a4 a5)) hl1 hl2 hi1 hi2
theorem pyNext_zipD_stop {Q : Option Value → Shared → Prop} (hh : A.handled = none) (d1 : Dr prog w i1 l1 xs P1) (d2 : Dr prog w i2 l2 ys P2) (D : ZipApart z TI TO i1 i2 l1 l2) (g : Zst s.heap z TI TO i1 i2 a b .none) (p1 : P1 s.heap k1) (p2 : P2 s.heap k2) (hend : xs[k1]? = none ∨ ys[k2]? = none)
    (q : ∀ h', (∀ c o, c ≠ z → c ≠ TO → c ≠ i1 → c ≠ i2 → s.heap.get? c = some o → h'.get? c = some o) → Q none { s with heap := h' }) : wpAny (model prog w) A (pyNext (.ref z)) Q E s := by
  have ty : s.TypeIs (.ref z) "zip" := ⟨_, g.z, rfl⟩
  unfold pyNext
  refine wpAny_bind (wpAny_attempt (wpAny_callSpecial?_slot (name := Str.ofString "__next__") ty PySem.F.slot_zip_next (wpAny_call_entry PySem.F.slot_zip_next ty PySem.F.entry_zip_next (zipD_stop hh d1 d2 D g p1 p2 hend fun h' e kp ⟨o, ho, hc⟩ => ?_) (PySem.F.args_zip_next_1 _))))
  exact wpAny_bind (wpAny_isInstance (T := "StopIteration") (b := true) ⟨o, ho, hc⟩ isSubtype_stop (wpAny_pure (q _ kp)))
end
/-! ### zip of a tuple and a list, made -/
abbrev zH1 (h : Heap) (l : Addr) : Heap := h.push { cls := .type "tuple_iterator", data := .fields #[.ref l, .int 0 0] }
abbrev zH2 (h : Heap) (l m : Addr) : Heap := (zH1 h l).push { cls := .type "list_iterator", data := .fields #[.ref m, .int 0 0] }
abbrev zH3 (h : Heap) (l m : Addr) : Heap := (zH2 h l m).push { cls := .type "tuple", data := .seq #[.ref h.objs.size, .ref (zH1 h l).objs.size] }
abbrev zH4 (h : Heap) (l m : Addr) : Heap := (zH3 h l m).push { cls := .type "tuple", data := .seq #[.none, .none] }
abbrev zH5 (h : Heap) (l m : Addr) : Heap := (zH4 h l m).push { cls := .type "zip", data := .fields #[.none, .bool false, .bool false, .ref (zH2 h l m).objs.size, .ref (zH3 h l m).objs.size] }
theorem meets_zipTL (l m : Addr) (xs ys : Array Value) :
    Meets (Builtin.«zip.__new__» ⟨[.type "zip", .ref l, .ref m], []⟩) (fun _ R s => s.heap.IsTuple l xs ∧ s.heap.IsList m ys ∧ R (.ok (.ret (.ref (zH4 s.heap l m).objs.size))) { s with heap := zH5 s.heap l m }) :=
  .of_wp fun prog w A R s h => by
    obtain ⟨hp, gs, dr, tk, os⟩ := s
    obtain ⟨t1, t2, h⟩ := h
    have sz := sub_zip
    have t1' : Heap.IsTuple (Shared.heap ⟨hp, gs, dr, tk, os⟩) l xs := t1
    have t2' : Heap.IsList (Shared.heap ⟨hp.push { cls := .type "tuple_iterator", data := .fields #[.ref l, .int 0 0] }, gs, dr, tk, os⟩) m ys := Heap.IsList.push t2 _
    wp_walk using wpAny_pyIter_tuple t1', wpAny_pyIter_list t2'
    exact ⟨_, rfl, h⟩
theorem call_zipTL {prog : Program} {w : World} {A : Around} {E : Value → Shared → Prop} {s : Shared} {l m : Addr} {xs ys : Array Value} {Q : Value → Shared → Prop} (t1 : s.heap.IsTuple l xs) (t2 : s.heap.IsList m ys)
    (q : ∀ h', Zst h' (s.heap.objs.size + 4) (s.heap.objs.size + 2) (s.heap.objs.size + 3) s.heap.objs.size (s.heap.objs.size + 1) .none .none .none → h'.IsTupleIter s.heap.objs.size l 0 → h'.IsListIter (s.heap.objs.size + 1) m 0 →
      (∀ c o, s.heap.get? c = some o → h'.get? c = some o) → Q (.ref (s.heap.objs.size + 4)) { s with heap := h' }) : wpAny (model prog w) A (call (.type "zip") [.ref l, .ref m]) Q E s := by
  refine callType_new PySem.F.called_zip (by decide) (PySem.F.typeCall_zip_2 _ _) (PySem.F.newCall_zip_2 _ _) (fun obj => PySem.F.args_object_init_3 obj _ _) PySem.F.entry_zip_new (meets_zipTL l m xs ys) ⟨t1, t2, ?_⟩
  have s1 : (zH1 s.heap l).objs.size = s.heap.objs.size + 1 := Heap.size_push ..
  have s2 : (zH2 s.heap l m).objs.size = s.heap.objs.size + 2 := by rw [Heap.size_push, s1]
  have s3 : (zH3 s.heap l m).objs.size = s.heap.objs.size + 3 := by rw [Heap.size_push, s2]
  have s4 : (zH4 s.heap l m).objs.size = s.heap.objs.size + 4 := by rw [Heap.size_push, s3]
  have up : ∀ {c o}, (zH4 s.heap l m).get? c = some o → (zH5 s.heap l m).get? c = some o := fun e => Heap.get?_push_of_some _ e
  have a5 : (zH5 s.heap l m).get? (zH4 s.heap l m).objs.size = some _ := Heap.get?_push_size _ rfl
  have a4 : (zH5 s.heap l m).get? (zH3 s.heap l m).objs.size = some _ := up (Heap.get?_push_size _ rfl)
  have a3 : (zH5 s.heap l m).get? (zH2 s.heap l m).objs.size = some _ := up (Heap.get?_push_of_some _ (Heap.get?_push_size _ rfl))
  have a2 : (zH5 s.heap l m).get? (zH1 s.heap l).objs.size = some _ := up (Heap.get?_push_of_some _ (Heap.get?_push_of_some _ (Heap.get?_push_size _ rfl)))
  have a1 : (zH5 s.heap l m).get? s.heap.objs.size = some _ := up (Heap.get?_push_of_some _ (Heap.get?_push_of_some _ (Heap.get?_push_of_some _ (Heap.get?_push_size _ rfl))))
  show _ ∧ _
  rw [s2, s3, s4] at a5
  rw [s3] at a4
  rw [s1, s2] at a3
  rw [s1] at a2
  rw [s4]
  refine ⟨⟨_, a5, rfl⟩, q _ ⟨a5, a3, a4⟩ ⟨_, a1, rfl, rfl⟩ ⟨_, a2, rfl, rfl⟩ fun c o e => up (Heap.get?_push_of_some _ (Heap.get?_push_of_some _ (Heap.get?_push_of_some _ (Heap.get?_push_of_some _ e))))⟩
/-! ### the walk over such a zip -/
/-- the tuple at a and the list at b as they stand at each turn -/
def ItzM (K : PySem.W.Frag) (a b : Addr) : It :=
  ⟨fun i H => ∃ (xs ys : List V) (x y : V), (SqT K H a xs ∧ SqL K H b ys) ∧ xs[i]? = some x ∧ ys[i]? = some y,
   fun i H v H' => ∃ t x y, (v = .ref t ∧ H t = none ∧ H' = upd H t (.tup [x, y])) ∧ (∀ xs, SqT K H a xs → xs[i]? = some x) ∧ ∀ ys, SqL K H b ys → ys[i]? = some y,
   fun i H => ∃ xs ys : List V, (SqT K H a xs ∧ SqL K H b ys) ∧ (xs.length ≤ i ∨ ys.length ≤ i)⟩
theorem turn_zipM {P : Program} {w : World} {K : PySem.W.Frag} {elts : List Expr} {kk : Nat} {tpos : Pos} {a b z TI TO i1 i2 : Addr} (D : ZipApart z TI TO i1 i2 a b) :
    Turn P w K (.Tuple elts kk tpos) (ItzM K a b) [z, TI, TO, i1, i2] z (fun i h => (∃ x y, Zst h z TI TO i1 i2 x y .none) ∧ h.IsTupleIter i1 a i ∧ h.IsListIter i2 b i) := by
  have five : ∀ {c : Addr}, c ∈ [z, TI, TO, i1, i2] → c = z ∨ c = TI ∨ c = TO ∨ c = i1 ∨ c = i2 := fun h => by simpa using h
  have off : ∀ {c : Addr}, c ∉ [z, TI, TO, i1, i2] → c ≠ z ∧ c ≠ TI ∧ c ≠ TO ∧ c ≠ i1 ∧ c ≠ i2 := fun h => by simpa using h
  refine ⟨by simp, fun i h st c hc => ?_, fun i h h' st k => ?_, ?_, ?_, fun A i s Q E st h => ?_⟩
  · obtain ⟨⟨x, y, gz, gi, go⟩, ⟨o1, e1, _, d1⟩, o2, e2, _, d2⟩ := st
    rcases five hc with q | q | q | q | q <;> rw [q]
    · exact ⟨_, gz, fun v u => nomatch u⟩
    · exact ⟨_, gi, fun v u => nomatch u⟩
    · exact ⟨_, go, fun v u => nomatch u⟩
    · exact ⟨o1, e1, fun v u => by rw [d1] at u; cases u⟩
    · exact ⟨o2, e2, fun v u => by rw [d2] at u; cases u⟩
  · obtain ⟨⟨x, y, gz, gi, go⟩, n1, n2⟩ := st
    exact ⟨⟨x, y, k z (by simp) _ gz, k TI (by simp) _ gi, k TO (by simp) _ go⟩, n1.at fun o u => k i1 (by simp) o u, n2.at fun o u => k i2 (by simp) o u⟩
  · intro X hP hw hK hc i pins s σ H E I hf st hg
    subst hP hw hK
    obtain ⟨⟨x0, y0, g⟩, n1, n2⟩ := st
    obtain ⟨xs, ys, x, y, ⟨qx, qy⟩, hx, hy⟩ := hg
    obtain ⟨its, rv, pl, _⟩ := I.tuple qx
    obtain ⟨jts, rw', pr, _⟩ := I.list qy
    obtain ⟨u, hu, ru⟩ := rv.get hx
    obtain ⟨v, hv, rv2⟩ := rw'.get hy
    have zl : z < s.heap.objs.size := Heap.lt_size g.z
    have b1 : i1 < s.heap.objs.size := by obtain ⟨_, e, _⟩ := n1; exact Heap.lt_size e
    have b2 : i2 < s.heap.objs.size := by obtain ⟨_, e, _⟩ := n2; exact Heap.lt_size e
    have b3 : a < s.heap.objs.size := by obtain ⟨_, e, _⟩ := pl; exact Heap.lt_size e
    refine pyNext_zipD_item (dr_tup D.l1i1) (dr_lst D.l2i2) D g ⟨n1, pl⟩ ⟨n2, pr.isList⟩ (x := u) (y := v) (by simpa using hu) (by simpa using hv) (fun h' g' m1 m2 ht kp => ?_) b3 pr.lt b1 b2
    refine ⟨_, rfl, wpAny_letOwnedTupleGo_zip (s := { s with heap := h' }) g'.z fun h'' z'' sb => ?_⟩
    have ht2 : h''.get? s.heap.objs.size = some { cls := .type "tuple", data := .seq #[u, v] } := (sb.2 _ (Nat.ne_of_gt zl)).trans ht
    have fresh : ObjOk X.prog X.w (upd H s.heap.objs.size (.tup [x, y])) h'' s.heap.objs.size (.tup [x, y]) := ⟨by show 2 ≤ sizeLine; decide, [u, v], .cons ru (.cons rv2 .nil), ⟨_, ht2, rfl, _, rfl⟩⟩
    have I1 : Inv X pins σ (upd H s.heap.objs.size (.tup [x, y])) { s with heap := h'' } :=
      I.turnedNew (t' := s.toks) (ch := [z, TI, TO, i1, i2]) (fun c o hb e => (sb.2 c (off hb).1).trans (kp c o (off hb).1 (off hb).2.2.1 (off hb).2.2.2.1 (off hb).2.2.2.2 e)) hf (Nat.le_refl _) fresh
    refine ⟨.ref s.heap.objs.size, _, I1, rfl, ⟨_, x, y, ⟨rfl, I.hok.fresh (Nat.le_refl _), rfl⟩, fun l hl => by rw [I.tuple_inj hl qx]; exact hx, fun l hl => by rw [I.list_inj hl qy]; exact hy⟩, ⟨⟨u, v, z'', ?_, ?_⟩, ?_, ?_⟩, fun c hcm => ?_⟩
    · exact (sb.2 _ D.TIz).trans g'.ti
    · exact (sb.2 _ D.TOz).trans g'.to
    · exact m1.1.at fun o e => (sb.2 _ D.i1z).trans e
    · exact m2.1.at fun o e => (sb.2 _ D.i2z).trans e
    · have hlt : c < s.heap.objs.size := by
        rcases five hcm with q | q | q | q | q <;> rw [q]
        · exact zl
        · exact Heap.lt_size g.ti
        · exact Heap.lt_size g.to
        · exact b1
        · exact b2
      rw [upd_ne (Nat.ne_of_lt hlt)]
      exact (hf c hcm).1
  · intro X hP hw hK hc i pins s σ H E I hf st hg
    subst hP hw hK
    obtain ⟨⟨x0, y0, g⟩, n1, n2⟩ := st
    obtain ⟨xs, ys, ⟨qx, qy⟩, hend⟩ := hg
    obtain ⟨its, rv, pl, _⟩ := I.tuple qx
    obtain ⟨jts, rw', pr, _⟩ := I.list qy
    have e1 := rv.length
    have e2 := rw'.length
    have he : its.toArray[i]? = none ∨ jts.toArray[i]? = none := hend.imp (fun q => by simp; omega) fun q => by simp; omega
    exact pyNext_zipD_stop (I.ok.hd hc) (dr_tup D.l1i1) (dr_lst D.l2i2) D g ⟨n1, pl⟩ ⟨n2, pr.isList⟩ he fun h' kp => ⟨rfl, I.turnedL (t' := s.toks) (ch := [z, TI, TO, i1, i2]) (fun c o hb e => kp c o (off hb).1 (off hb).2.2.1 (off hb).2.2.2.1 (off hb).2.2.2.2 e) hf⟩
  · obtain ⟨⟨x, y, g⟩, _⟩ := st
    exact wpAny_pyIter_zip g.z h
/-- zip(t, x): t a tuple, x a list or a tuple -/
def iZipM (K : PySem.W.Frag) (ta : TA) : TI := fun σ H R => ta σ H fun vs H1 => ∃ a b xs ys, vs = [.ref a, .ref b] ∧ SqT K H1 a xs ∧ ((SqL K H1 b ys ∧ R (ItzM K a b) H1) ∨ (SqT K H1 b ys ∧ R (RZ.ItzT K a b) H1))
theorem pi_zipM {X : Cx} {e e2 : Expr} {ta : TA} {p pos tpos : Pos} {elts : List Expr} {kk : Nat} (hg : Gl X "zip") (hm : X.mg "zip" = none) (ha : PA X [e, e2] ta)
    (hs : starEach [e, e2] X.env = (false, eval e X.env) :: starEach [e2] X.env := by rfl) (hpl : (backTo pos (starEach [e2] X.env)).any (·.1) = false := by rfl) :
    PI X (.Tuple elts kk tpos) (.Call (.Name "zip" p) [e, e2] [] pos) (iZipM X.K ta) := by
  refine ⟨fun pins s σ H R I h => ?_⟩
  refine Call_ (ld_blt I hg hm PyProof.Rows.boot_zip (PyProof.Rows.callWith_type1 (thn (ha.run pos pins s σ H _ I h) fun us s1 ⟨vs, H1, I1, r1, a, b, xs, ys, ex, qx, q⟩ => ?_) hs hpl))
  subst ex
  obtain ⟨u, v, rfl, ru, rv⟩ := vals2 r1
  cases ru
  cases rv
  have up : ∀ c, c ∈ [s1.heap.objs.size + 4, s1.heap.objs.size + 2, s1.heap.objs.size + 3, s1.heap.objs.size, s1.heap.objs.size + 1] → FpOk X pins H1 c := fun c hc => by
    have hle : s1.heap.objs.size ≤ c := by
      simp only [List.mem_cons, List.not_mem_nil, or_false] at hc
      omega
    exact I1.fpOk hle (I1.hok.fresh hle)
  obtain ⟨its, _, p1, _⟩ := I1.tuple qx
  have b1 : a < s1.heap.objs.size := by obtain ⟨_, e, _⟩ := p1; exact Heap.lt_size e
  rcases q with ⟨qy, q⟩ | ⟨qy, q⟩
  · obtain ⟨jts, _, p2, _⟩ := I1.list qy
    refine call_zipTL (show s1.heap.IsTuple a its.toArray from p1) p2.isList fun h' g n1 n2 kp => wpAny_pyIter_zip g.z ?_
    exact ⟨s1.heap.objs.size + 4, [s1.heap.objs.size + 4, s1.heap.objs.size + 2, s1.heap.objs.size + 3, s1.heap.objs.size, s1.heap.objs.size + 1], _, _, H1, rfl, I1.kept (t' := s1.toks) (h' := h') kp, turn_zipM (PySem.W.ktu_apart s1.heap.objs.size a b b1 p2.lt), ⟨⟨_, _, g⟩, n1, n2⟩, up, q⟩
  · obtain ⟨jts, _, p2, _⟩ := I1.tuple qy
    have b2 : b < s1.heap.objs.size := by obtain ⟨_, e, _⟩ := p2; exact Heap.lt_size e
    refine RZ.call_zipT (show s1.heap.IsTuple a its.toArray from p1) (show s1.heap.IsTuple b jts.toArray from p2) fun h' gz gi go n1 n2 _ kp => wpAny_pyIter_zip gz ?_
    exact ⟨s1.heap.objs.size + 4, [s1.heap.objs.size + 4, s1.heap.objs.size + 2, s1.heap.objs.size + 3, s1.heap.objs.size, s1.heap.objs.size + 1], _, _, H1, rfl, I1.kept (t' := s1.toks) (h' := h') kp, RZ.turn_zipT (PySem.W.ktu_apart s1.heap.objs.size a b b1 b2), ⟨gz, gi, ⟨_, _, go⟩, n1, n2⟩, up, q⟩
theorem for_zipM {K : PySem.W.Frag} {a b : Addr} {xs ys : List V} {g : TG} {tb : TS} {D : Ends} {σ : L2.St} {H : Hp} (hlen : xs.length = ys.length) (Pv : Nat → L2.St → Hp → Prop) (h0 : Pv 0 σ H) (hx : ∀ i σ H, Pv i σ H → SqT K H a xs) (hy : (∀ i σ H, Pv i σ H → SqL K H b ys) ∨ (∀ i σ H, Pv i σ H → SqT K H b ys))
    (hs : ∀ (i : Nat) (x y : V) (t : Addr) (σ : L2.St) (H : Hp), xs[i]? = some x → ys[i]? = some y → Pv i σ H → H t = none → g (.ref t) σ (upd H t (.tup [x, y])) fun σ2 H2 => tb { D with nx := Pv (i + 1), ct := Pv (i + 1), bk := D.nx } σ2 H2) (hd : ∀ σ H, Pv xs.length σ H → D.nx σ H) :
    (SqL K H b ys ∧ ∃ W : Nat → Nat → L2.St → Hp → Prop, (∃ m, W 0 m σ H) ∧ ∀ i m σ H, W i m σ H → ((ItzM K a b).stop i H ∧ D.nx σ H) ∨ ((ItzM K a b).go i H ∧ ∃ N : L2.St → Hp → Prop, (∀ σ' H', N σ' H' → ∃ m', m' < m ∧ W (i + 1) m' σ' H') ∧ ∀ v H', (ItzM K a b).yld i H v H' → g v σ H' fun σ2 H2 => tb { D with nx := N, ct := N, bk := D.nx } σ2 H2)) ∨
    (SqT K H b ys ∧ ∃ W : Nat → Nat → L2.St → Hp → Prop, (∃ m, W 0 m σ H) ∧ ∀ i m σ H, W i m σ H → ((RZ.ItzT K a b).stop i H ∧ D.nx σ H) ∨ ((RZ.ItzT K a b).go i H ∧ ∃ N : L2.St → Hp → Prop, (∀ σ' H', N σ' H' → ∃ m', m' < m ∧ W (i + 1) m' σ' H') ∧ ∀ v H', (RZ.ItzT K a b).yld i H v H' → g v σ H' fun σ2 H2 => tb { D with nx := N, ct := N, bk := D.nx } σ2 H2)) := by
  rcases hy with hy | hy
  · refine .inl ⟨hy 0 _ _ h0, fun i m σ H => m = xs.length - i ∧ i ≤ xs.length ∧ Pv i σ H, ⟨xs.length, by simp, Nat.zero_le _, h0⟩, ?_⟩
    rintro i m σ H ⟨rfl, hi, p⟩
    have qx := hx i σ H p
    have qy := hy i σ H p
    by_cases hlt : i < xs.length
    · have e1 : xs[i]? = some xs[i] := List.getElem?_eq_getElem hlt
      have e2 : ys[i]? = some ys[i] := List.getElem?_eq_getElem (by omega)
      refine .inr ⟨⟨xs, ys, _, _, ⟨qx, qy⟩, e1, e2⟩, Pv (i + 1), fun σ' H' p' => ⟨xs.length - (i + 1), by omega, rfl, hlt, p'⟩, fun v H' y => ?_⟩
      obtain ⟨t, x', y', ⟨rfl, ht, rfl⟩, f1, f2⟩ := y
      exact hs i x' y' t σ H (f1 xs qx) (f2 ys qy) p ht
    · have e : i = xs.length := by omega
      subst e
      exact .inl ⟨⟨xs, ys, ⟨qx, qy⟩, .inl (Nat.le_refl _)⟩, hd σ H p⟩
  · exact .inr ⟨hy 0 _ _ h0, RZ.for_zipT hlen Pv h0 (fun i σ H p => ⟨hx i σ H p, hy i σ H p⟩) hs hd⟩
end Ru

set_option Elab.async false
set_option linter.all false
set_option maxRecDepth 100000
set_option maxHeartbeats 2000000
/-! more rules: an index in a comprehension, isinstance of two of one's own classes, dicts by names, three dicts -/
namespace Ru
open PySem PySem.Spec PyProof.Rows L2
theorem ix_listK {X : Cx} (K : PySem.W.Frag) (h : X.K = K) : IxR X (rIxL K) := h ▸ ix_list
theorem ix_tupK {X : Cx} (K : PySem.W.Frag) (h : X.K = K) : IxR X (rIxT K) := h ▸ ix_tup
theorem nodup_map_range {α : Type} {f : Nat → α} : ∀ {n : Nat}, (∀ i j, i < n → j < n → f i = f j → i = j) → ((List.range n).map f).Nodup
  | 0, _ => by simp
  | n + 1, h => by
    rw [List.range_succ, List.map_append, List.nodup_append]
    refine ⟨nodup_map_range fun i j hi hj e => h i j (by omega) (by omega) e, by simp, fun a ha b hb e => ?_⟩
    obtain ⟨i, hi, rfl⟩ := List.mem_map.mp ha
    rw [List.map_singleton, List.mem_singleton] at hb
    subst hb
    have hi := List.mem_range.mp hi
    have := h i n (by omega) (by omega) e
    omega
/-! ## isinstance(x, (C, D)), both one's own -/
def rIsO2 (K : PySem.W.Frag) (D1 D2 : Addr) (T : Addr → Bool → Prop) : List V → Hp → VK → Prop := fun xs H Q => ∃ a tp C dx fs b, xs = [.ref a, .ref tp] ∧ H tp = some (.tup [.ref D1, .ref D2]) ∧ H a = some (.ins C dx fs) ∧ T C b ∧ Q (.bl b) H
theorem call_isO2 {X : Cx} {D1 D2 : Addr} {T1 T2 : Addr → Bool → Prop} (h1 : IsT X.K D1 T1) (h2 : IsT X.K D2 T2) : CallR X (.builtin "isinstance") (rIsO2 X.K D1 D2 fun C b => ∃ b1 b2, T1 C b1 ∧ T2 C b2 ∧ b = (b1 || b2)) := by
  intro pins s σ H xs us Q I r hq
  obtain ⟨a, tp, C, dx, fs, b, rfl, ht, ha, ⟨b1, b2, t1, t2, rfl⟩, q⟩ := hq
  obtain ⟨⟨mg, x, c⟩, e1⟩ := h1 C b1 t1
  obtain ⟨_, e2⟩ := h2 C b2 t2
  refine call_isiT pins s σ H _ us Q I r ⟨.ref a, tp, _, _, _, b1 || b2, rfl, ht, .cons (.own D1) (.cons (.own D2) .nil), .base (.ins ha c.cl c.ha c.hn c.htk c.hm), ?_, q⟩
  refine kitAny_cons e1 (fun h => ?_) (fun h => by rw [h]; rfl)
  refine kitAny_cons e2 (fun h' => ?_) (fun h' => by rw [h']; simp)
  rw [h, h']
  rfl
/-! ## dicts of names -/
def keysL {α : Type} (l : List (Str × α)) : List Str := l.map (·.1)
def putL {α : Type} (l : List (Str × α)) (n : Str) (v : α) : List (Str × α) := if n ∈ keysL l then l.map fun p => if p.1 = n then (n, v) else p else l ++ [(n, v)]
def getL {α : Type} (l : List (Str × α)) (n : Str) : Option α := (l.find? fun p => decide (p.1 = n)).map (·.2)
def dL {α : Type} (f : α → V) (l : List (Str × α)) : List (Key × V) := l.map fun p => (.inr p.1, f p.2)
section
variable {α : Type} {f : α → V} {l : List (Str × α)} {n m : Str} {v : α}
theorem dL_any : ((dL f l).any fun kv => decide (kv.1 = (Sum.inr n : Key))) = decide (n ∈ keysL l) := by
  rw [Bool.eq_iff_iff, List.any_eq_true, decide_eq_true_eq]
  unfold dL keysL
  constructor
  · rintro ⟨x, hx, e⟩
    obtain ⟨p, hp, rfl⟩ := List.mem_map.mp hx
    have e : p.1 = n := by simpa using e
    exact List.mem_map.mpr ⟨p, hp, e⟩
  · intro h
    obtain ⟨p, hp, rfl⟩ := List.mem_map.mp h
    exact ⟨_, List.mem_map.mpr ⟨p, hp, rfl⟩, by simp⟩
theorem dL_put : putK (dL f l) (Sum.inr n : Key) (f v) = dL f (putL l n v) := by
  unfold putK putL
  rw [dL_any]
  by_cases h : n ∈ keysL l
  · rw [decide_eq_true h, if_pos rfl, if_pos h]
    unfold dL
    rw [List.map_map, List.map_map]
    apply List.map_congr_left
    intro x _
    simp only [Function.comp]
    by_cases e : x.1 = n
    · rw [if_pos e, if_pos (by rw [e]), e]
    · rw [if_neg e, if_neg (fun q => e (by injection q))]
  · rw [decide_eq_false h, if_neg (by decide), if_neg h]
    simp [dL]
theorem dL_get : ∀ {l : List (Str × α)}, valV (dL f l) (Sum.inr n : Key) = (getL l n).map f
  | [] => rfl
  | (x, a) :: l => by
    by_cases e : x = n
    · subst e
      have h2 : valV (dL f ((x, a) :: l)) (Sum.inr x : Key) = some (f a) := valV_pos rfl
      rw [h2]
      simp [getL]
    · have h2 : valV (dL f ((x, a) :: l)) (Sum.inr n : Key) = valV (dL f l) (Sum.inr n : Key) := valV_neg fun q => e (by injection q)
      rw [h2, dL_get]
      simp [getL, e]
theorem dL_len : (dL f l).length = l.length := by simp [dL]
theorem getL_mem : (∃ v, getL l n = some v) ↔ n ∈ keysL l := by
  unfold getL keysL
  constructor
  · rintro ⟨v, h⟩
    obtain ⟨p, hp, rfl⟩ := Option.map_eq_some_iff.mp h
    have h1 := List.mem_of_find?_eq_some hp
    have h2 := List.find?_some hp
    exact List.mem_map.mpr ⟨p, h1, by simpa using h2⟩
  · intro h
    obtain ⟨p, hp, rfl⟩ := List.mem_map.mp h
    have : (l.find? fun q => decide (q.1 = p.1)).isSome := by
      rw [List.find?_isSome]
      exact ⟨p, hp, by simp⟩
    obtain ⟨q, hq⟩ := Option.isSome_iff_exists.mp this
    exact ⟨q.2, by rw [hq]; rfl⟩
theorem getL_none : getL l n = none ↔ n ∉ keysL l := by
  rw [← getL_mem]
  cases getL l n <;> simp
theorem keys_put (h : n ∈ keysL l) : keysL (putL l n v) = keysL l := by
  unfold putL
  rw [if_pos h]
  unfold keysL
  rw [List.map_map]
  apply List.map_congr_left
  intro x _
  simp only [Function.comp]
  split
  · rename_i e
    exact e.symm
  · rfl
theorem keys_new (h : n ∉ keysL l) : putL l n v = l ++ [(n, v)] := by
  unfold putL
  rw [if_neg h]
theorem keys_put_new (h : n ∉ keysL l) : keysL (putL l n v) = keysL l ++ [n] := by
  rw [keys_new h]
  simp [keysL]
theorem put_le : (putL l n v).length ≤ l.length + 1 := by
  unfold putL
  split <;> simp
theorem len_keys : (keysL l).length = l.length := by simp [keysL]
theorem getL_put : getL (putL l n v) m = if m = n then some v else getL l m := by
  have e := dL_get (f := fun a : α => V.non) (l := putL l n v) (n := m)
  clear e
  unfold putL
  split
  · rename_i h
    by_cases e : m = n
    · subst e
      rw [if_pos rfl]
      obtain ⟨p, hp, e1⟩ := List.mem_map.mp h
      unfold getL
      have : ((l.map fun p => if p.1 = m then (m, v) else p).find? fun p => decide (p.1 = m)) = some (m, v) := by
        clear h
        induction l with
        | nil => cases hp
        | cons x l ih =>
          rw [List.map_cons]
          by_cases hx : x.1 = m
          · rw [if_pos hx]
            simp
          · rw [if_neg hx, List.find?_cons_of_neg (by simpa using hx)]
            rcases List.mem_cons.mp hp with rfl | hp
            · exact absurd e1 hx
            · exact ih hp
      rw [this]
      rfl
    · rw [if_neg e]
      unfold getL
      clear h
      induction l with
      | nil => rfl
      | cons x l ih =>
        rw [List.map_cons]
        by_cases hx : x.1 = n
        · rw [if_pos hx, List.find?_cons_of_neg (by simpa using fun q => e q.symm), ih, List.find?_cons_of_neg (by rw [hx]; simpa using fun q => e q.symm)]
        · rw [if_neg hx]
          by_cases hm : x.1 = m
          · rw [List.find?_cons_of_pos (by simpa using hm), List.find?_cons_of_pos (by simpa using hm)]
          · rw [List.find?_cons_of_neg (by simpa using hm), List.find?_cons_of_neg (by simpa using hm), ih]
  · rename_i h
    unfold getL
    rw [List.find?_append]
    by_cases e : m = n
    · subst e
      rw [if_pos rfl]
      have : (l.find? fun p => decide (p.1 = m)) = none := by
        rw [List.find?_eq_none]
        intro p hp q
        exact h (List.mem_map.mpr ⟨p, hp, by simpa using q⟩)
      rw [this]
      simp
    · rw [if_neg e]
      have : ([(n, v)].find? fun p => decide (p.1 = m)) = none := by
        simp
        exact fun q => e q.symm
      rw [this]
      cases l.find? fun p => decide (p.1 = m) <;> rfl
end
/-! ## for over a list or a tuple, whichever it is -/
def iAny (K : PySem.W.Frag) (te : TE) : TI := fun σ H R => te σ H fun x H1 => ∃ a xs, x = .ref a ∧ ((SqL K H1 a xs ∧ R (Itl K a) H1) ∨ (SqT K H1 a xs ∧ R (Itt K a) H1))
theorem pi_any {X : Cx} {tg l : Expr} {te : TE} (hl : PE X l te) : PI X tg l (iAny X.K te) := by
  refine ⟨fun pins s σ H R I h => ?_⟩
  refine thn (hl.run pins s σ H _ I h) fun v s1 ⟨x, H1, I1, r1, a, xs, ex, q⟩ => ?_
  subst ex
  cases r1
  have fp : ∀ b, b ∈ [s1.heap.objs.size] → FpOk X pins H1 b := fun b hb => by
    rw [List.mem_singleton.mp hb]
    exact I1.fpOk (Nat.le_refl _) (I1.hok.fresh (Nat.le_refl _))
  rcases q with ⟨hq, q⟩ | ⟨hq, q⟩
  · obtain ⟨its, _, pl, _⟩ := I1.list hq
    exact wpAny_pyIter_list pl.isList ⟨_, [s1.heap.objs.size], _, _, H1, rfl, I1.kept (t' := s1.toks) fun b o e => Heap.get?_push_of_some _ e, turn_list a _, ⟨_, Heap.get?_push_size _ rfl, rfl, rfl⟩, fp, q⟩
  · obtain ⟨its, _, pt, _⟩ := I1.tuple hq
    exact wpAny_pyIter_tuple (show s1.heap.IsTuple a its.toArray from pt) ⟨_, [s1.heap.objs.size], _, _, H1, rfl, I1.kept (t' := s1.toks) fun b o e => Heap.get?_push_of_some _ e, turn_tuple a _, ⟨_, Heap.get?_push_size _ rfl, rfl, rfl⟩, fp, q⟩
/-- a list or a tuple -/
def Sq (K : PySem.W.Frag) (H : Hp) (a : Addr) (xs : List V) : Prop := SqL K H a xs ∨ SqT K H a xs
/-- a loop over what is a list or a tuple -/
theorem for_any {K : PySem.W.Frag} {a : Addr} {xs : List V} {g : TG} {tb : TS} {D : Ends} {σ : L2.St} {H : Hp} (Pv : Nat → L2.St → Hp → Prop) (h0 : Pv 0 σ H) (hl : (∀ i σ H, i ≤ xs.length → Pv i σ H → SqL K H a xs) ∨ (∀ i σ H, i ≤ xs.length → Pv i σ H → SqT K H a xs))
    (hs : ∀ i x σ H, xs[i]? = some x → Pv i σ H → g x σ H fun σ2 H2 => tb { D with nx := Pv (i + 1), ct := Pv (i + 1), bk := D.nx } σ2 H2) (hd : ∀ σ H, Pv xs.length σ H → D.nx σ H) :
    (SqL K H a xs ∧ ∃ W : Nat → Nat → L2.St → Hp → Prop, (∃ m, W 0 m σ H) ∧ ∀ i m σ H, W i m σ H → ((Itl K a).stop i H ∧ D.nx σ H) ∨ ((Itl K a).go i H ∧ ∃ N : L2.St → Hp → Prop, (∀ σ' H', N σ' H' → ∃ m', m' < m ∧ W (i + 1) m' σ' H') ∧ ∀ x H', (Itl K a).yld i H x H' → g x σ H' fun σ2 H2 => tb { D with nx := N, ct := N, bk := D.nx } σ2 H2)) ∨
    (SqT K H a xs ∧ ∃ W : Nat → Nat → L2.St → Hp → Prop, (∃ m, W 0 m σ H) ∧ ∀ i m σ H, W i m σ H → ((Itt K a).stop i H ∧ D.nx σ H) ∨ ((Itt K a).go i H ∧ ∃ N : L2.St → Hp → Prop, (∀ σ' H', N σ' H' → ∃ m', m' < m ∧ W (i + 1) m' σ' H') ∧ ∀ x H', (Itt K a).yld i H x H' → g x σ H' fun σ2 H2 => tb { D with nx := N, ct := N, bk := D.nx } σ2 H2)) := by
  rcases hl with hl | hl
  · exact .inl ⟨hl 0 _ _ (Nat.zero_le _) h0, for_list Pv h0 hl hs hd⟩
  · exact .inr ⟨hl 0 _ _ (Nat.zero_le _) h0, for_tup Pv h0 hl hs hd⟩
end Ru

set_option Elab.async false
set_option linter.all false
set_option maxRecDepth 100000
set_option maxHeartbeats 2000000
/-! a method that may raise, called in a try's body -/
namespace Ru
open PySem PySem.Spec PyProof.Rows L2
/-- o.m(..) where what it raises is handled by the slots -/
def tMethS (T : Addr → Prop) (m : Str) (sp : Addr → Sp) (E : L2.St → XK) (ta : TE) (t : TA) : TE := fun σ H Q => ta σ H fun x H1 => ∃ a C dx fs, x = .ref a ∧ H1 a = some (.ins C dx fs) ∧ T C ∧ fs.lookup m = none ∧ t σ H1 fun vs H2 => sp C (x :: vs) H2 Q (E σ)
section
variable {X : Cx} {W : WX} {j k : Nat} {ps : List Str} {sp : Addr → Sp} {T : Addr → Prop} {m : Str} {p pos apos : Pos} {e o : Expr} {es : List Expr} {ta : TE} {t : TA}
theorem pe_methT {pl : Sem Bool} (D : DispAt X.prog X.w X.K X.mg X.base (L2.CX X.prog X.w) T m k ps sp) (hr : Room j X.A) (tk : L2.Takes X W) (he : PE X o ta) (ha : PA X (e :: es) t) (hj : k ≤ j := by decide)
    (hst : starEach (e :: es) X.env = (false, eval e X.env) :: starEach es X.env := by rfl) (hpl : (backTo pos (starEach es X.env)).any (·.1) = false := by rfl)
    (ht : eval (.Call (.Attribute o m apos) (e :: es) [] pos) X.env = (do
      let ov ← eval o X.env
      standAt apos.atName
      let (f, first) ← holding [ov] (getMethod ov m pl)
      callWith pos f first (backTo pos (starEach (e :: es) X.env)) (backToKw pos (keywordEach [] X.env))) := by rfl) :
    PE X (.Call (.Attribute o m apos) (e :: es) [] pos) (tMethS T m sp (WE W) ta t) := by
  refine ⟨fun pins s σ H Q I h => ?_⟩
  refine PySem.W.methodCall_KW (pl := pl) (thn (he.run pins s σ H _ I h) ?_) ht
  rintro u s1 ⟨x, H1, I1, rx, a, C, dx, fs, rfl, ea, tc, l, q⟩
  obtain rfl : u = Value.ref a := rx
  obtain ⟨f, fd, c, hm, hb, F⟩ := D.ex C tc
  refine getmeth_ok I1 ea c hm l ?_
  refine PySem.W.callWith_K (first := [.ref a]) (h₀ := X.base) I.ok.mod.kin hm.kp (thn (ha.run pos pins s1 σ H1 _ I1 q) ?_) hst hpl
  rintro us s2 ⟨vs, H2, I2, r, q2⟩
  exact ⟨I2.kIn, L2.run_fnS (us := .ref a :: us) (vs := .ref a :: vs) (E := WE W) (F.mono hj) hr hb (L2.passAt tk σ) I2 (.cons rfl r) q2⟩
end
section
variable {K : PySem.W.Frag} {mg mg' : Str → Option Value} {x y : Str} {C D L M : Addr}
theorem ExcAt.self (T : ExcAt K mg x C L) : PySem.W.exmOne K (.ref C) (.ref C) = some true := by
  refine PySem.W.exm_ref T.is_.hs T.is_.hd T.tP ?_
  rw [T.subs]
  congr 1
  simp
end
/-! ### in a comprehension's element -/
theorem call_tuple_ofK {X : Cx} (K : PySem.W.Frag) (h : X.K = K) : CallR X (.type "tuple") (fun xs H Q => ∃ p ys, xs = [.ref p] ∧ ((SqL K H p ys ∧ ∀ l, H l = none → Q (.ref l) (upd H l (.tup ys))) ∨ (SqT K H p ys ∧ Q (.ref p) H))) := h ▸ call_tuple_of
theorem call_list_ofK {X : Cx} (K : PySem.W.Frag) (h : X.K = K) : CallR X (.type "list") (fun xs H Q => ∃ p ys, xs = [.ref p] ∧ (SqL K H p ys ∨ SqT K H p ys) ∧ ∀ l, H l = none → Q (.ref l) (upd H l (.lst ys))) := h ▸ call_list_of
theorem call_len_seqK {X : Cx} (K : PySem.W.Frag) (h : X.K = K) : CallR X (.builtin "len") (fun xs H Q => ∃ p ys, xs = [.ref p] ∧ (SqL K H p ys ∨ SqT K H p ys) ∧ Q (.int ys.length) H) := h ▸ call_len_seq
/-- what stood while something was locked stands behind it -/
theorem lock_same {H H' : Hp} {d : Addr} {od : Obj} {u : HO} (h : H d = some u) (s : Same (upd H d (.frz od u)) H') : Same H (upd H' d u) := fun b o e => by
  by_cases hb : b = d
  · subst hb
    rw [h] at e
    cases e
    exact upd_same
  · rw [upd_ne hb]
    exact s b o (by rw [upd_ne hb]; exact e)
theorem lock_at {H : Hp} {d b : Addr} {od : Obj} {u o : HO} (n : b ≠ d) (h : H b = some o) : upd H d (.frz od u) b = some o := by rw [upd_ne n]; exact h
end Ru

set_option Elab.async false
set_option linter.all false
set_option maxRecDepth 100000
set_option maxHeartbeats 2000000
/-! a try whose body raises nothing -/
namespace Ru
open PySem PySem.Spec PyProof.Rows L2
section
variable {X : Cx} {x : Str} {body suite : List Stmt} {np pos pos' : Pos} {nm : Option Str} {tb : WX → TS}
theorem ps_try_calm (hs : X.stack = X.env :: X.outer)
    (hb : ∀ (W : WX) (pn : List (Addr × Obj)) (xe : Value → Shared → Prop), Takes (X.tr pn xe) W → PassesOwn (model X.prog X.w) X.A X.env xe → PSs (X.tr pn xe) body (tb W)) :
    PS X (.Try body [.ExceptHandler (some (.Name x np)) nm suite pos'] [] [] pos) (fun D σ H => tb (fun _ _ _ _ => False) D σ H) := by
  refine ⟨fun pins s σ H D I h => ?_⟩
  have ok := I.ok
  refine wpAny_Try_except ?_
  refine wpAny_mono ((hb (fun _ _ _ _ => False) (X.pn ++ pins) (fun e s₁ => wpAny (model X.prog X.w) X.A (noteFrame e X.env) (fun _ s₂ => wpAny (model X.prog X.w) X.A (setFlight e none) (fun _ s₃ =>
    wpAny (model X.prog X.w) X.A (handleBy e X.env [.ExceptHandler (some (.Name x np)) nm suite pos']) (SP X pins D) X.xe s₃) X.xe s₂) X.xe s₁) (fun u s' xx => ?_) PassesOwn.looking).run [] s σ H D (I.toTry _) h) (fun f s1 hsp => ?_) (fun e s1 he => he)
  · obtain ⟨a, B, sI, pins', σ', H', cls, d, rfl, J', nb, up, sky, na, os, ag, hF⟩ := xx
    exact hF.elim
  · cases f with
    | next =>
      obtain ⟨σ', H', J', q⟩ := hsp
      exact wpAny_execs_nil ⟨σ', H', J'.ofTry ok, q⟩
    | brk =>
      obtain ⟨σ', H', J', q⟩ := hsp
      exact ⟨σ', H', J'.ofTry ok, q⟩
    | cont =>
      obtain ⟨σ', H', J', q⟩ := hsp
      exact ⟨σ', H', J'.ofTry ok, q⟩
    | ret u =>
      obtain ⟨v, σ', H', J', r, q⟩ := hsp
      exact ⟨v, σ', H', J'.ofTry ok, r, q⟩
end
/-! ## tuples of which it is known that they bear no dict: t.index(x) -/
/-- a tuple that stands as it is, without a dict -/
def TupN (H : Hp) (a : Addr) (xs : List V) : Prop := ∃ o, H a = some (.frz o (.tup xs)) ∧ o.dict = none
theorem TupN.sq {K : PySem.W.Frag} {H : Hp} {a : Addr} {xs : List V} (h : TupN H a xs) : SqT K H a xs := let ⟨o, e, _⟩ := h; .inl (.inr ⟨o, e⟩)
theorem TupN.keep {H H' : Hp} {a : Addr} {xs : List V} (h : TupN H a xs) (s : Same H H') : TupN H' a xs := let ⟨o, e, d⟩ := h; ⟨o, s _ _ e, d⟩
/-- tuple(xs) of a list: made anew; of a tuple: that one -/
theorem call_tuple_ofN {X : Cx} : CallR X (.type "tuple") (fun xs H Q => ∃ p ys, xs = [.ref p] ∧ ((SqL X.K H p ys ∧ ∀ l o, H l = none → o.dict = none → Q (.ref l) (upd H l (.frz o (.tup ys)))) ∨ (SqT X.K H p ys ∧ Q (.ref p) H))) := by
  intro pins s σ H xs us Q I r h
  obtain ⟨p, ys, rfl, h⟩ := h
  obtain ⟨u, rfl, rx⟩ := vals1 r
  cases rx
  rcases h with ⟨hq, q⟩ | ⟨hq, q⟩
  · obtain ⟨its, r', pl, hz⟩ := I.list hq
    have hlen := r'.length
    refine call_tuple_list pl.isList (fun h' kp => ?_) (by simp only [List.size_toArray] <;> omega)
    have I1 : Inv X pins σ H { s with heap := h' } := I.kept (t' := s.toks) kp
    have I2 : Inv X pins σ (upd H h'.objs.size (.frz { cls := .type "tuple", data := .seq its.toArray } (.tup ys))) { s with heap := h'.push { cls := .type "tuple", data := .seq its.toArray } } :=
      I1.laid (t' := s.toks) (fun b o e => Heap.get?_push_of_some _ e) (Nat.le_refl _) (show ObjOk X.prog X.w _ _ _ (.frz _ (.tup ys)) from ⟨Heap.get?_push_size _ rfl, hz, its, r', IsTup.new _ _⟩)
    exact ⟨.ref h'.objs.size, _, I2, rfl, q _ _ (I1.hok.fresh (Nat.le_refl _)) rfl⟩
  · obtain ⟨its, r', pl, hz⟩ := I.tuple hq
    exact call_tuple_same pl ⟨.ref p, H, I, rfl, q⟩
def tTupKeysN (td : TE) : TE := fun σ H Q => td σ H fun x H1 => ∃ d kvs, x = .ref d ∧ H1 d = some (.dK kvs) ∧ ∀ q o, H1 q = none → o.dict = none → Q (.ref q) (upd H1 q (.frz o (.tup (kvs.map fun kv => kV kv.1))))
section
variable {X : Cx}
theorem pe_tupKeysN {e : Expr} {td : TE} {p pos apos cpos : Pos} (hm : X.mg "tuple" = none) (he : PE X e td) (hc : X.calm = true := by rfl) (hg : Gl X "tuple" := by rfl) (hbase : attributeBase e "keys" X.env (eval e X.env) = eval e X.env := by rfl) (hline : (apos.endLine == cpos.line) = true := by rfl)
    (na : starEach [.Call (.Attribute e "keys" apos) [] [] cpos] X.env = (false, eval (.Call (.Attribute e "keys" apos) [] [] cpos) X.env) :: starEach [] X.env := by rfl) :
    PE X (.Call (.Name "tuple" p) [.Call (.Attribute e "keys" apos) [] [] cpos] [] pos) (tTupKeysN td) := by
  refine ⟨fun pins s σ H Q I h => ?_⟩
  refine Call_ (ld_blt I hg hm boot_tuple (PyProof.Rows.callWith_type1 (args_cons ?_ na) na))
  refine wpAny_Call_method (T := "dict") (id := "dict.keys") hbase rfl hline F.plainAttrs_dict F.slot_dict_keys F.type_dict_keys (thn (he.run pins s σ H _ I h) fun u s1 ⟨x, H1, I1, rx, d, kvs, ex, hd, q⟩ => ?_)
  subst ex
  obtain rfl : u = Value.ref d := rx
  obtain ⟨z, lo, vs, rk, hdt⟩ := (show ObjOk X.prog X.w H1 s1.heap d (.dK kvs) from I1.hok d _ hd)
  obtain ⟨ep, hat⟩ := hdt.dictAt
  have hl : kvs.length = vs.length := Paired.length rk
  refine ⟨hat.dictOf.typeIs, hat.dictOf.mapOf.noDict, ?_⟩
  have k2 : ∀ b o, s1.heap.get? b = some o → (s1.heap.push { cls := .type "dict_keys", data := .fields #[.ref d] }).get? b = some o := fun b ob q => Heap.get?_push_of_some _ q
  have I2 : Inv X pins σ H1 { s1 with heap := s1.heap.push { cls := .type "dict_keys", data := .fields #[.ref d] } } := I1.kept (t' := s1.toks) k2
  have view : PySem.W.KdlKeysView (s1.heap.push { cls := .type "dict_keys", data := .fields #[.ref d] }) s1.heap.objs.size d := ⟨_, Heap.get?_push_size _ rfl, rfl, rfl⟩
  have fin : wpAny (model X.prog X.w) X.A (call (.type "tuple") [.ref s1.heap.objs.size]) (EP X pins σ Q) X.xe { s1 with heap := s1.heap.push { cls := .type "dict_keys", data := .fields #[.ref d] } } := by
    refine call_tuple_kdl (PySem.W.kdl_keys (knd := mixKind X.prog X.w) (kvs := vs) (ep := ep) (d := d)) (I1.ok.hd hc) ⟨view, hat.push _⟩ (by rw [← hl]; exact z) fun h' tk acc hk hacc => ?_
    have I3 : Inv X pins σ H1 { s1 with heap := h', toks := tk } := I2.kept (h' := h') (t' := tk) hk
    have el : acc.toList.length = acc.size := by simp
    have rv : Vals (kvs.map fun kv => kV kv.1) acc.toList := by
      refine vals_of_at (by rw [List.length_map, el, hacc.1, hl]) fun j x w h1 h2 => ?_
      obtain ⟨k, y, hky, hi⟩ := hacc.2 j w (by rw [← Array.getElem?_toList]; exact h2)
      have e1 : (kvs.map (·.1))[j]? = some k := by
        rw [KV.keys rk, List.getElem?_map, hky] <;> rfl
      have e2 : (kvs.map fun kv => kV kv.1)[j]? = some (kV k) := by
        have e3 : (kvs.map fun kv => kV kv.1) = (kvs.map (·.1)).map kV := by rw [List.map_map] <;> rfl
        rw [e3, List.getElem?_map, e1] <;> rfl
      rw [e2] at h1
      cases h1
      exact keyIs_rel hi
    have hz : (kvs.map fun kv => kV kv.1).length ≤ sizeLine := by rw [List.length_map]; exact z
    have I4 : Inv X pins σ (upd H1 h'.objs.size (.frz { cls := .type "tuple", data := .seq acc } (.tup (kvs.map fun kv => kV kv.1)))) { s1 with heap := h'.push { cls := .type "tuple", data := .seq acc }, toks := tk } := by
      refine I3.laid (t' := tk) (fun b o e => Heap.get?_push_of_some _ e) (Nat.le_refl _) (show ObjOk X.prog X.w _ _ _ (.frz _ (.tup _)) from ⟨Heap.get?_push_size _ rfl, hz, acc.toList, rv, ?_⟩)
      have e5 : acc.toList.toArray = acc := by simp
      rw [e5]
      exact ⟨_, Heap.get?_push_size _ rfl, rfl, _, rfl⟩
    exact ⟨.ref h'.objs.size, _, I4, rfl, q _ _ (I3.hok.fresh (Nat.le_refl _)) rfl⟩
  show wpAny _ _ (callWith cpos (.builtin "dict.keys") [.ref d] [] []) _ X.xe s1
  exact method_meetsIn F.slot_dict_keys F.entry_dict_keys rfl (PySem.evalArgs_none ⟨rfl, hat.dictOf.typeIs, F.args_dict_keys_1 _, _, PySem.W.kdl_meets_keys (mixKind X.prog X.w) d lo, ⟨vs, hat.dictOf⟩, args_nil fin⟩)
/-- t.index(x) -/
def tTupIx (to : TE) (t : TA) : TE := fun σ H Q => to σ H fun x H1 => ∃ p xs0, x = .ref p ∧ TupN H1 p xs0 ∧ t σ H1 fun vs H2 => ∃ (ys : List Str) (z : Str) (j : Nat), vs = [.str z] ∧ SqT X.K H2 p (ys.map V.str) ∧ ys[j]? = some z ∧ (∀ m, m < j → ys[m]? ≠ some z) ∧ Q (.int (j : Nat)) H2
theorem pe_tupIndex {o e : Expr} {es : List Expr} {to : TE} {t : TA} {apos cpos : Pos} (ho : PE X o to) (ha : PA X (e :: es) t)
    (hbase : attributeBase o "index" X.env (eval o X.env) = eval o X.env := by rfl)
    (hfew : ((backTo cpos (starEach (e :: es) X.env)).all (fun x => !x.1) && (backToKw cpos (keywordEach [] X.env)).all (fun x => x.1.isSome)
      && decide ((e :: es).length + ([] : List Keyword).length + (if ([] : List Keyword).isEmpty then 0 else 1) < 30)) = true := by rfl)
    (hline : (apos.endLine == cpos.line) = true := by rfl) (hs : starEach (e :: es) X.env = (false, eval e X.env) :: starEach es X.env := by rfl) (hplain : (backTo cpos (starEach es X.env)).any (·.1) = false := by rfl) :
    PE X (.Call (.Attribute o "index" apos) (e :: es) [] cpos) (tTupIx (X := X) to t) := by
  refine ⟨fun pins s σ H Q I h => ?_⟩
  refine wpAny_Call_method_late hbase hfew hline rfl (thn (ho.run pins s σ H _ I h) fun v s1 ⟨x, H1, I1, r1, p, xs0, ex, ⟨ob, ep, ed⟩, q1⟩ => ?_)
  subst ex
  obtain rfl : v = Value.ref p := r1
  obtain ⟨g1, g2⟩ := (show ObjOk X.prog X.w H1 s1.heap p (.frz ob (.tup xs0)) from I1.hok p _ ep)
  obtain ⟨_, its, _, o2, g3, g4, _⟩ := g2
  rw [g1] at g3
  cases g3
  refine ⟨"tuple", "tuple.index", PySem.F.plainAttrs_tuple, PySem.F.slot_tuple_index, PySem.F.type_tuple_index, ⟨ob, g1, g4⟩, fun a e => by cases e; exact ⟨ob, g1, ed⟩, ?_⟩
  have hA := ha.run cpos pins s1 σ H1 _ I1 q1
  rw [hs] at hA ⊢
  refine Calls.callWith_builtin (by show (false || (backTo cpos (starEach es X.env)).any (·.1)) = false; rw [hplain] <;> rfl) (Calls.evalArgs_plain ?_)
  exact thn hA fun us s2 ⟨vs, H2, I2, r2, ys, z, j, e1, e2, e3, e4, q2⟩ => mt_tup_index pins s2 σ H2 (.ref p) vs (.ref p) us Q I2 rfl r2 ⟨p, ys, z, j, rfl, e1, e2, e3, e4, q2⟩
end
end Ru

set_option Elab.async false
set_option linter.all false
set_option maxRecDepth 100000
/-! sheets, in plain Lean: nodes as (place, low, high), kept apart from any program -/
namespace Sh
abbrev Nd := Nat × Nat × Nat
/-- the place of a node -/
def pl (n : Nat) (ns : List Nd) (k : Nat) : Nat := if k < 2 then n else match ns[k - 2]? with | some t => t.1 | none => n
/-- what a node tells of a row, by so many steps at most -/
def evf : Nat → List Nd → Nat → (Nat → Bool) → Bool
  | 0, _, _, _ => false
  | f + 1, ns, k, b => if k < 2 then k == 1 else match ns[k - 2]? with
    | some (p, l, h) => evf f ns (if b p then h else l) b
    | none => false
def ev (ns : List Nd) (k : Nat) (b : Nat → Bool) : Bool := evf (k + 1) ns k b
structure Wf (n : Nat) (ns : List Nd) : Prop where
  ok : ∀ i p l h, ns[i]? = some (p, l, h) → p < n ∧ l ≠ h ∧ l < i + 2 ∧ h < i + 2 ∧ p < pl n ns l ∧ p < pl n ns h
  nd : ns.Nodup
theorem Wf.nil {n : Nat} : Wf n [] := ⟨fun i p l h e => by simp at e, List.nodup_nil⟩
section
variable {n : Nat} {ns : List Nd}
theorem at_some {k : Nat} (h2 : 2 ≤ k) (hk : k < ns.length + 2) : ∃ p l h, ns[k - 2]? = some (p, l, h) := by
  have : k - 2 < ns.length := by omega
  exact ⟨ns[k - 2].1, ns[k - 2].2.1, ns[k - 2].2.2, by rw [List.getElem?_eq_getElem this]⟩
theorem pl_at {k p l h : Nat} (h2 : 2 ≤ k) (e : ns[k - 2]? = some (p, l, h)) : pl n ns k = p := by
  unfold pl
  rw [if_neg (by omega), e]
theorem pl_low {k : Nat} (h : k < 2) : pl n ns k = n := if_pos h
theorem Wf.pl_lt (w : Wf n ns) {k : Nat} (h2 : 2 ≤ k) (hk : k < ns.length + 2) : pl n ns k < n := by
  obtain ⟨p, l, h, e⟩ := at_some h2 hk
  rw [pl_at h2 e]
  exact (w.ok _ _ _ _ e).1
theorem Wf.pl_le (w : Wf n ns) {k : Nat} (hk : k < ns.length + 2) : pl n ns k ≤ n := by
  by_cases h2 : k < 2
  · rw [pl_low h2]; exact Nat.le_refl _
  · exact Nat.le_of_lt (w.pl_lt (by omega) hk)
theorem Wf.kids (w : Wf n ns) {k p l h : Nat} (h2 : 2 ≤ k) (e : ns[k - 2]? = some (p, l, h)) : p < n ∧ l ≠ h ∧ l < k ∧ h < k ∧ p < pl n ns l ∧ p < pl n ns h := by
  obtain ⟨a, b, c, d, f, g⟩ := w.ok _ _ _ _ e
  exact ⟨a, b, by omega, by omega, f, g⟩
theorem lt_of_at {k : Nat} {t : Nd} (h2 : 2 ≤ k) (e : ns[k - 2]? = some t) : k < ns.length + 2 := by
  have := (List.getElem?_eq_some_iff.mp e).1
  omega
theorem Wf.evf_more (w : Wf n ns) (b : Nat → Bool) : ∀ (f k : Nat), k < f → evf f ns k b = evf (k + 1) ns k b := by
  intro f
  induction f using Nat.strongRecOn with
  | _ f ih =>
    intro k hk
    obtain ⟨g, rfl⟩ : ∃ g, f = g + 1 := ⟨f - 1, by omega⟩
    simp only [evf]
    by_cases h2 : k < 2
    · rw [if_pos h2, if_pos h2]
    · rw [if_neg h2, if_neg h2]
      cases e : ns[k - 2]? with
      | none => rfl
      | some t =>
        obtain ⟨p, l, h⟩ := t
        obtain ⟨_, _, hl, hh, _⟩ := w.kids (by omega) e
        show evf g ns (if b p then h else l) b = evf k ns (if b p then h else l) b
        have hc : (if b p then h else l) < k := by split <;> assumption
        by_cases hgk : g + 1 = k + 1
        · rw [Nat.succ.inj hgk]
        · rw [ih g (by omega) _ (by omega), ih k (by omega) _ hc]
theorem ev_low {k : Nat} {b : Nat → Bool} (h : k < 2) : ev ns k b = (k == 1) := by
  unfold ev evf
  rw [if_pos h]
theorem Wf.ev_at (w : Wf n ns) {k p l h : Nat} (b : Nat → Bool) (h2 : 2 ≤ k) (e : ns[k - 2]? = some (p, l, h)) : ev ns k b = ev ns (if b p then h else l) b := by
  obtain ⟨_, _, hl, hh, _⟩ := w.kids h2 e
  have hc : (if b p then h else l) < k := by split <;> assumption
  show evf (k + 1) ns k b = _
  rw [evf, if_neg (by omega), e]
  exact w.evf_more b _ _ hc
/-- what stands ahead of a node's place has no say -/
theorem Wf.indep (w : Wf n ns) {b b' : Nat → Bool} : ∀ (k : Nat), k < ns.length + 2 → (∀ q, pl n ns k ≤ q → b q = b' q) → ev ns k b = ev ns k b' := by
  intro k
  induction k using Nat.strongRecOn with
  | _ k ih =>
    intro hk hq
    by_cases h2 : k < 2
    · rw [ev_low h2, ev_low h2]
    · obtain ⟨p, l, h, e⟩ := at_some (by omega) hk
      obtain ⟨_, _, hl, hh, pl_, ph_⟩ := w.kids (by omega) e
      have ep := pl_at (n := n) (by omega) e
      rw [w.ev_at b (by omega) e, w.ev_at b' (by omega) e, ← hq p (by omega)]
      by_cases hb : b p = true
      · rw [if_pos hb]
        exact ih h hh (by omega) fun q hq' => hq q (by omega)
      · rw [if_neg hb]
        exact ih l hl (by omega) fun q hq' => hq q (by omega)
def setb (b : Nat → Bool) (p : Nat) (v : Bool) : Nat → Bool := fun q => if q = p then v else b q
theorem setb_at {b : Nat → Bool} {p : Nat} {v : Bool} : setb b p v p = v := if_pos rfl
theorem setb_ne {b : Nat → Bool} {p q : Nat} {v : Bool} (h : q ≠ p) : setb b p v q = b q := if_neg h
theorem Wf.ev_set (w : Wf n ns) {k p : Nat} (b : Nat → Bool) (v : Bool) (hk : k < ns.length + 2) (hp : p < pl n ns k) : ev ns k (setb b p v) = ev ns k b :=
  w.indep k hk fun q hq => setb_ne (by omega)
theorem Wf.ev_child (w : Wf n ns) {k p l h : Nat} (b : Nat → Bool) (v : Bool) (h2 : 2 ≤ k) (e : ns[k - 2]? = some (p, l, h)) : ev ns k (setb b p v) = ev ns (if v then h else l) b := by
  obtain ⟨_, _, hl, hh, pl_, ph_⟩ := w.kids h2 e
  have hk := lt_of_at h2 e
  rw [w.ev_at _ h2 e, setb_at]
  cases v
  · exact w.ev_set b _ (k := l) (by omega) pl_
  · exact w.ev_set b _ (k := h) (by omega) ph_
/-- two nodes that tell the same are one -/
theorem Wf.one (w : Wf n ns) : ∀ (m a c : Nat), a ≤ m → c ≤ m → a < ns.length + 2 → c < ns.length + 2 → (∀ b, ev ns a b = ev ns c b) → a = c := by
  intro m
  induction m with
  | zero => intro a c ha hc _ _ _; omega
  | succ m ih =>
    have key : ∀ (a c : Nat), a ≤ m + 1 → a < ns.length + 2 → c < ns.length + 2 → 2 ≤ a → pl n ns a < pl n ns c → (∀ b, ev ns a b = ev ns c b) → False := by
      intro a c ha hal hcl h2 hp he
      obtain ⟨p, l, h, e⟩ := at_some h2 hal
      obtain ⟨_, hlh, hl, hh, pl_, ph_⟩ := w.kids h2 e
      rw [pl_at h2 e] at hp
      refine hlh (ih l h (by omega) (by omega) (by omega) (by omega) fun b => ?_)
      have e0 := w.ev_child b false h2 e
      have e1 := w.ev_child b true h2 e
      rw [he, w.ev_set b _ hcl hp] at e0 e1
      exact e0.symm.trans e1
    intro a c ha hc hal hcl he
    by_cases ha2 : a < 2
    · by_cases hc2 : c < 2
      · have := he fun _ => false
        rw [ev_low ha2, ev_low hc2] at this
        have h1 : a = 1 ↔ c = 1 := by
          have q : (a == 1) = true ↔ (c == 1) = true := by rw [this]
          simpa using q
        omega
      · exact (key c a hc hcl hal (by omega) (by rw [pl_low ha2]; exact w.pl_lt (by omega) hcl) fun b => (he b).symm).elim
    · by_cases hc2 : c < 2
      · exact (key a c ha hal hcl (by omega) (by rw [pl_low hc2]; exact w.pl_lt (by omega) hal) he).elim
      · rcases Nat.lt_trichotomy (pl n ns a) (pl n ns c) with hp | hp | hp
        · exact (key a c ha hal hcl (by omega) hp he).elim
        · obtain ⟨p, l, h, e⟩ := at_some (by omega : 2 ≤ a) hal
          obtain ⟨p', l', h', e'⟩ := at_some (by omega : 2 ≤ c) hcl
          obtain ⟨_, _, hl, hh, _, _⟩ := w.kids (by omega) e
          obtain ⟨_, _, hl', hh', _, _⟩ := w.kids (by omega) e'
          rw [pl_at (by omega) e, pl_at (by omega) e'] at hp
          subst hp
          have el : l = l' := ih l l' (by omega) (by omega) (by omega) (by omega) fun b => by
            have e0 := w.ev_child b false (by omega) e
            rw [he, w.ev_child b false (by omega) e'] at e0
            exact e0.symm
          have eh : h = h' := ih h h' (by omega) (by omega) (by omega) (by omega) fun b => by
            have e0 := w.ev_child b true (by omega) e
            rw [he, w.ev_child b true (by omega) e'] at e0
            exact e0.symm
          subst el eh
          have hi := (List.getElem?_eq_some_iff.mp e)
          have hi' := (List.getElem?_eq_some_iff.mp e')
          obtain ⟨x1, x2⟩ := hi
          obtain ⟨y1, y2⟩ := hi'
          have hne := List.pairwise_iff_getElem.mp w.nd
          rcases Nat.lt_trichotomy (a - 2) (c - 2) with q | q | q
          · exact absurd (x2.trans y2.symm) (hne _ _ x1 y1 q)
          · omega
          · exact absurd (y2.trans x2.symm) (hne _ _ y1 x1 q)
        · exact (key c a hc hcl hal (by omega) hp fun b => (he b).symm).elim
theorem Wf.canon (w : Wf n ns) {a c : Nat} (ha : a < ns.length + 2) (hc : c < ns.length + 2) (he : ∀ b, ev ns a b = ev ns c b) : a = c :=
  w.one (max a c) a c (by omega) (by omega) ha hc he
/-! more nodes behind -/
theorem at_app {m : List Nd} {k : Nat} (hk : k < ns.length + 2) (h2 : 2 ≤ k) : (ns ++ m)[k - 2]? = ns[k - 2]? := List.getElem?_append_left (by omega)
theorem pl_app {m : List Nd} {k : Nat} (hk : k < ns.length + 2) : pl n (ns ++ m) k = pl n ns k := by
  unfold pl
  by_cases h2 : k < 2
  · rw [if_pos h2, if_pos h2]
  · rw [if_neg h2, if_neg h2, at_app hk (by omega)]
theorem Wf.ev_app (w : Wf n ns) {m : List Nd} (w2 : Wf n (ns ++ m)) {b : Nat → Bool} : ∀ (k : Nat), k < ns.length + 2 → ev (ns ++ m) k b = ev ns k b := by
  intro k
  induction k using Nat.strongRecOn with
  | _ k ih =>
    intro hk
    by_cases h2 : k < 2
    · rw [ev_low h2, ev_low h2]
    · obtain ⟨p, l, h, e⟩ := at_some (by omega) hk
      obtain ⟨_, _, hl, hh, _, _⟩ := w.kids (by omega) e
      have hc : (if b p then h else l) < k := by split <;> assumption
      rw [w.ev_at b (by omega) e, w2.ev_at b (by omega) ((at_app hk (by omega)).trans e)]
      exact ih _ hc (by omega)
theorem Wf.push (w : Wf n ns) {p l h : Nat} (hp : p < n) (hlh : l ≠ h) (hl : l < ns.length + 2) (hh : h < ns.length + 2) (pl_ : p < pl n ns l) (ph_ : p < pl n ns h) (hn : (p, l, h) ∉ ns) : Wf n (ns ++ [(p, l, h)]) := by
  refine ⟨fun i p' l' h' e => ?_, List.nodup_append.mpr ⟨w.nd, by simp, fun a ha b hb e => hn (by rw [List.mem_singleton.mp hb] at e; exact e ▸ ha)⟩⟩
  by_cases hi : i < ns.length
  · rw [List.getElem?_append_left hi] at e
    obtain ⟨a, b, c, d, f, g⟩ := w.ok _ _ _ _ e
    exact ⟨a, b, c, d, by rw [pl_app (by omega)]; exact f, by rw [pl_app (by omega)]; exact g⟩
  · have hil := (List.getElem?_eq_some_iff.mp e).1
    rw [List.length_append, List.length_singleton] at hil
    obtain rfl : i = ns.length := by omega
    rw [List.getElem?_append_right (Nat.le_refl _), Nat.sub_self] at e
    cases e
    exact ⟨hp, hlh, hl, hh, by rw [pl_app hl]; exact pl_, by rw [pl_app hh]; exact ph_⟩
end
/-! the node of a place and two nodes -/
def num? : List Nd → Nat → Nd → Option Nat
  | [], _, _ => none
  | t :: r, i, u => if t = u then some (i + 2) else num? r (i + 1) u
theorem num_none : ∀ {ns : List Nd} {i : Nat} {u : Nd}, num? ns i u = none ↔ u ∉ ns
  | [], _, _ => by simp [num?]
  | t :: r, i, u => by
    unfold num?
    by_cases h : t = u
    · simp [h]
    · rw [if_neg h, num_none]
      simp [Ne.symm h]
theorem num_some : ∀ {ns : List Nd} {i k : Nat} {u : Nd}, num? ns i u = some k → ∃ j, k = i + j + 2 ∧ ns[j]? = some u
  | [], _, _, _, e => by simp [num?] at e
  | t :: r, i, k, u, e => by
    unfold num? at e
    by_cases h : t = u
    · rw [if_pos h] at e
      cases e
      exact ⟨0, by omega, by simp [h]⟩
    · rw [if_neg h] at e
      obtain ⟨j, h1, h2⟩ := num_some e
      exact ⟨j + 1, by omega, by simpa using h2⟩
def made (ns : List Nd) (p l h : Nat) : Nat × List Nd := if l = h then (l, ns) else match num? ns 0 (p, l, h) with
  | some k => (k, ns)
  | none => (ns.length + 2, ns ++ [(p, l, h)])
section
variable {n : Nat} {ns : List Nd}
theorem Wf.made (w : Wf n ns) {p l h : Nat} (hp : p < n) (hl : l < ns.length + 2) (hh : h < ns.length + 2) (pl_ : p < pl n ns l) (ph_ : p < pl n ns h) : ∃ r m, made ns p l h = (r, ns ++ m) ∧ Wf n (ns ++ m) ∧ r < (ns ++ m).length + 2 ∧ (∀ b, ev (ns ++ m) r b = ev ns (if b p then h else l) b) ∧ p ≤ pl n (ns ++ m) r ∧ ((m = [] ∧ (l = h → r = l)) ∨ (m.length = 1 ∧ r = ns.length + 2 ∧ l ≠ h)) ∧ (l ≠ h → ns.length + 1 = l ∨ ns.length + 1 = h → m ≠ []) := by
  unfold Sh.made
  by_cases hlh : l = h
  · subst hlh
    rw [if_pos rfl]
    refine ⟨l, [], by rw [List.append_nil], by rw [List.append_nil]; exact w, by rw [List.append_nil]; exact hl, fun b => by rw [List.append_nil, ite_self], by rw [List.append_nil]; omega, .inl ⟨rfl, fun _ => rfl⟩, fun e => absurd rfl e⟩
  · rw [if_neg hlh]
    cases e : num? ns 0 (p, l, h) with
    | some k =>
      obtain ⟨j, rfl, h2⟩ := num_some e
      rw [Nat.zero_add]
      have h3 : ns[j + 2 - 2]? = some (p, l, h) := h2
      have hj := lt_of_at (by omega) h3
      refine ⟨j + 2, [], by rw [List.append_nil], by rw [List.append_nil]; exact w, by rw [List.append_nil]; exact hj, fun b => by rw [List.append_nil]; exact w.ev_at b (by omega) h3, by rw [List.append_nil, pl_at (by omega) h3]; exact Nat.le_refl _, .inl ⟨rfl, fun e => absurd e hlh⟩, fun _ q => ?_⟩
      obtain ⟨_, _, h4, h5, _⟩ := w.kids (by omega) h3
      omega
    | none =>
      have w2 := w.push hp hlh hl hh pl_ ph_ (num_none.mp e)
      have h3 : (ns ++ [(p, l, h)])[ns.length + 2 - 2]? = some (p, l, h) := by
        rw [Nat.add_sub_cancel, List.getElem?_append_right (Nat.le_refl _), Nat.sub_self]
        rfl
      refine ⟨ns.length + 2, [(p, l, h)], rfl, w2, by simp, fun b => ?_, by rw [pl_at (by omega) h3]; exact Nat.le_refl _, .inr ⟨rfl, rfl, hlh⟩, fun _ _ e => by cases e⟩
      rw [w2.ev_at b (by omega) h3]
      exact w.ev_app w2 _ (by split <;> assumption)
end
/-! two nodes joined: where stop is 0 both, where it is 1 one of both -/
abbrev Kn := Nat → Nat → Option Nat
def kput (kn : Kn) (a c r : Nat) : Kn := fun x y => if x = a ∧ y = c then some r else kn x y
def below (n : Nat) (ns : List Nd) (k p : Nat) : Nat × Nat := if p < pl n ns k then (k, k) else match ns[k - 2]? with
  | some (_, l, h) => (l, h)
  | none => (k, k)
def join (n stop : Nat) : Nat → List Nd → Kn → Nat → Nat → Option (Nat × List Nd × Kn)
  | 0, _, _, _, _ => none
  | f + 1, ns, kn, a, c =>
    if a = stop ∨ c = stop then some (stop, ns, kn)
    else if a = 1 - stop ∨ a = c then some (c, ns, kn)
    else if c = 1 - stop then some (a, ns, kn)
    else match kn a c with
    | some r => some (r, ns, kn)
    | none =>
      match join n stop f ns kn (below n ns a (min (pl n ns a) (pl n ns c))).1 (below n ns c (min (pl n ns a) (pl n ns c))).1 with
      | none => none
      | some (l, ns1, kn1) =>
        match join n stop f ns1 kn1 (below n ns a (min (pl n ns a) (pl n ns c))).2 (below n ns c (min (pl n ns a) (pl n ns c))).2 with
        | none => none
        | some (h, ns2, kn2) => some ((made ns2 (min (pl n ns a) (pl n ns c)) l h).1, (made ns2 (min (pl n ns a) (pl n ns c)) l h).2, kput kn2 a c (made ns2 (min (pl n ns a) (pl n ns c)) l h).1)
def op2 (stop : Nat) (x y : Bool) : Bool := if stop = 0 then x && y else x || y
/-- what is known is right -/
def KnOk (n stop : Nat) (ns : List Nd) (kn : Kn) : Prop := ∀ a c r, kn a c = some r → a < ns.length + 2 ∧ c < ns.length + 2 ∧ r < ns.length + 2 ∧ (∀ b, ev ns r b = op2 stop (ev ns a b) (ev ns c b)) ∧ min (pl n ns a) (pl n ns c) ≤ pl n ns r
theorem KnOk.nil {n stop : Nat} {ns : List Nd} : KnOk n stop ns fun _ _ => none := fun _ _ _ e => by cases e
theorem KnOk.app {n stop : Nat} {ns m : List Nd} {kn : Kn} (w : Wf n ns) (w2 : Wf n (ns ++ m)) (h : KnOk n stop ns kn) : KnOk n stop (ns ++ m) kn := fun a c r e => by
  obtain ⟨h1, h2, h3, h4, h5⟩ := h a c r e
  rw [List.length_append]
  refine ⟨by omega, by omega, by omega, fun b => ?_, ?_⟩
  · rw [w.ev_app w2 r h3, w.ev_app w2 a h1, w.ev_app w2 c h2]
    exact h4 b
  · rw [pl_app h1, pl_app h2, pl_app h3]
    exact h5
section
variable {n stop : Nat} {ns : List Nd}
theorem Wf.below (w : Wf n ns) {k p : Nat} (hk : k < ns.length + 2) (hp : p ≤ pl n ns k) (hn : p < n) : (below n ns k p).1 < ns.length + 2 ∧ (below n ns k p).2 < ns.length + 2 ∧ p < pl n ns (below n ns k p).1 ∧ p < pl n ns (below n ns k p).2 ∧
    ∀ b, ev ns k b = ev ns (if b p then (below n ns k p).2 else (below n ns k p).1) b := by
  unfold Sh.below
  by_cases h : p < pl n ns k
  · rw [if_pos h]
    exact ⟨hk, hk, h, h, fun b => by rw [ite_self]⟩
  · rw [if_neg h]
    have h2 : 2 ≤ k := by
      by_cases h2 : k < 2
      · rw [pl_low h2] at h; omega
      · omega
    obtain ⟨q, l, g, e⟩ := at_some h2 hk
    obtain ⟨_, _, hl, hh, pl_, ph_⟩ := w.kids h2 e
    have ep := pl_at (n := n) h2 e
    have : q = p := by omega
    subst this
    rw [e]
    exact ⟨by show l < _; omega, by show g < _; omega, pl_, ph_, fun b => w.ev_at b h2 e⟩
/-- what joining comes to -/
theorem Wf.join (hs : stop < 2) : ∀ (f : Nat) (ns : List Nd) (kn : Kn) (a c : Nat), Wf n ns → KnOk n stop ns kn → a < ns.length + 2 → c < ns.length + 2 → n < f + min (pl n ns a) (pl n ns c) →
    ∃ r m kn', join n stop f ns kn a c = some (r, ns ++ m, kn') ∧ Wf n (ns ++ m) ∧ KnOk n stop (ns ++ m) kn' ∧ r < (ns ++ m).length + 2 ∧ (∀ b, ev (ns ++ m) r b = op2 stop (ev ns a b) (ev ns c b)) ∧ min (pl n ns a) (pl n ns c) ≤ pl n (ns ++ m) r ∧
      (m = [] ∨ r = (ns ++ m).length + 1) ∧ m.length + 1 ≤ 2 ^ (n - min (pl n ns a) (pl n ns c)) := by
  intro f
  induction f with
  | zero =>
    intro ns kn a c w _ ha hc hf
    have := w.pl_le ha
    omega
  | succ f ih =>
    intro ns kn a c w hkn ha hc hf
    have one_le : 1 ≤ 2 ^ (n - min (pl n ns a) (pl n ns c)) := Nat.one_le_two_pow
    have stays : ∀ r, r < ns.length + 2 → (∀ b, ev ns r b = op2 stop (ev ns a b) (ev ns c b)) → min (pl n ns a) (pl n ns c) ≤ pl n ns r →
        ∃ r' m kn', some (r, ns, kn) = some (r', ns ++ m, kn') ∧ Wf n (ns ++ m) ∧ KnOk n stop (ns ++ m) kn' ∧ r' < (ns ++ m).length + 2 ∧ (∀ b, ev (ns ++ m) r' b = op2 stop (ev ns a b) (ev ns c b)) ∧ min (pl n ns a) (pl n ns c) ≤ pl n (ns ++ m) r' ∧
          (m = [] ∨ r' = (ns ++ m).length + 1) ∧ m.length + 1 ≤ 2 ^ (n - min (pl n ns a) (pl n ns c)) := fun r h1 h2 h3 =>
      ⟨r, [], kn, by rw [List.append_nil], by rw [List.append_nil]; exact w, by rw [List.append_nil]; exact hkn, by rw [List.append_nil]; exact h1, by rw [List.append_nil]; exact h2, by rw [List.append_nil]; exact h3, .inl rfl, one_le⟩
    have c0 : ∀ b, ev ns 0 b = false := fun b => ev_low (by omega)
    have c1 : ∀ b, ev ns 1 b = true := fun b => ev_low (by omega)
    unfold Sh.join
    by_cases h1 : a = stop ∨ c = stop
    · rw [if_pos h1]
      refine stays stop (by omega) (fun b => ?_) (by rw [pl_low hs]; have := w.pl_le ha; omega)
      unfold op2
      rcases (by omega : stop = 0 ∨ stop = 1) with rfl | rfl
      · rw [if_pos rfl]
        rcases h1 with rfl | rfl
        · rw [c0]; rfl
        · rw [c0, Bool.and_false]
      · rw [if_neg (by omega)]
        rcases h1 with rfl | rfl
        · rw [c1]; rfl
        · rw [c1, Bool.or_true]
    rw [if_neg h1]
    by_cases h2 : a = 1 - stop ∨ a = c
    · rw [if_pos h2]
      refine stays c hc (fun b => ?_) (Nat.min_le_right _ _)
      unfold op2
      rcases h2 with h2 | rfl
      · rcases (by omega : stop = 0 ∨ stop = 1) with rfl | rfl
        · rw [if_pos rfl, h2, c1]; rfl
        · rw [if_neg (by omega), h2, c0]; rfl
      · split
        · rw [Bool.and_self]
        · rw [Bool.or_self]
    rw [if_neg h2]
    by_cases h3 : c = 1 - stop
    · rw [if_pos h3]
      refine stays a ha (fun b => ?_) (Nat.min_le_left _ _)
      unfold op2
      rcases (by omega : stop = 0 ∨ stop = 1) with rfl | rfl
      · rw [if_pos rfl, h3, c1, Bool.and_true]
      · rw [if_neg (by omega), h3, c0, Bool.or_false]
    rw [if_neg h3]
    cases hk : kn a c with
    | some r =>
      obtain ⟨_, _, h6, h7, h8⟩ := hkn a c r hk
      exact stays r h6 h7 h8
    | none =>
      have ha2 : 2 ≤ a := by omega
      have hc2 : 2 ≤ c := by omega
      have hpa := w.pl_lt ha2 ha
      have hpc := w.pl_lt hc2 hc
      generalize hp : min (pl n ns a) (pl n ns c) = p at *
      have hpn : p < n := by omega
      obtain ⟨a1, a2, a3, a4, a5⟩ := w.below (p := p) ha (by omega) hpn
      obtain ⟨d1, d2, d3, d4, d5⟩ := w.below (p := p) hc (by omega) hpn
      generalize Sh.below n ns a p = A at *
      generalize Sh.below n ns c p = C at *
      obtain ⟨l, m1, kn1, e1, w1, k1, l1, l2, l3, l4, l5⟩ := ih ns kn A.1 C.1 w hkn a1 d1 (by omega)
      have A2 : A.2 < (ns ++ m1).length + 2 := by rw [List.length_append]; omega
      have C2 : C.2 < (ns ++ m1).length + 2 := by rw [List.length_append]; omega
      obtain ⟨h, m2, kn2, e2, w2, k2, g1, g2, g3, g4, g5⟩ := ih (ns ++ m1) kn1 A.2 C.2 w1 k1 A2 C2 (by rw [pl_app a2, pl_app d2]; omega)
      rw [pl_app a2, pl_app d2] at g3 g5
      have L2 : l < (ns ++ m1 ++ m2).length + 2 := by rw [List.length_append]; omega
      have pL : pl n (ns ++ m1 ++ m2) l = pl n (ns ++ m1) l := pl_app l1
      obtain ⟨r, m3, e3, w3, r1, r2, r3, r4, r5⟩ := w2.made (p := p) (l := l) (h := h) hpn L2 g1 (by omega) (by omega)
      show ∃ r m kn', (match Sh.join n stop f ns kn A.1 C.1 with
        | none => none
        | some (l, ns1, kn1) => match Sh.join n stop f ns1 kn1 A.2 C.2 with
          | none => none
          | some (h, ns2, kn2) => some ((Sh.made ns2 p l h).1, (Sh.made ns2 p l h).2, kput kn2 a c (Sh.made ns2 p l h).1)) = some (r, ns ++ m, kn') ∧ _
      rw [e1]
      show ∃ r m kn', (match Sh.join n stop f (ns ++ m1) kn1 A.2 C.2 with
          | none => none
          | some (h, ns2, kn2) => some ((Sh.made ns2 p l h).1, (Sh.made ns2 p l h).2, kput kn2 a c (Sh.made ns2 p l h).1)) = some (r, ns ++ m, kn') ∧ _
      rw [e2]
      show ∃ r m kn', some ((Sh.made (ns ++ m1 ++ m2) p l h).1, (Sh.made (ns ++ m1 ++ m2) p l h).2, kput kn2 a c (Sh.made (ns ++ m1 ++ m2) p l h).1) = some (r, ns ++ m, kn') ∧ _
      rw [e3]
      have eN : ns ++ m1 ++ m2 ++ m3 = ns ++ (m1 ++ (m2 ++ m3)) := by simp only [List.append_assoc]
      have w4 : Wf n (ns ++ (m1 ++ (m2 ++ m3))) := eN ▸ w3
      have r1' : r < (ns ++ (m1 ++ (m2 ++ m3))).length + 2 := eN ▸ r1
      have r3' : p ≤ pl n (ns ++ (m1 ++ (m2 ++ m3))) r := eN ▸ r3
      have sem : ∀ b, ev (ns ++ (m1 ++ (m2 ++ m3))) r b = op2 stop (ev ns a b) (ev ns c b) := fun b => by
        rw [← eN, r2, a5, d5]
        by_cases hb : b p = true
        · rw [if_pos hb, if_pos hb, if_pos hb, g2, w.ev_app w1 _ a2, w.ev_app w1 _ d2]
        · rw [if_neg hb, if_neg hb, if_neg hb, w1.ev_app w2 _ l1, l2]
      have k3 : KnOk n stop (ns ++ (m1 ++ (m2 ++ m3))) kn2 := eN ▸ k2.app w2 w3
      refine ⟨r, m1 ++ (m2 ++ m3), kput kn2 a c r, by rw [← eN], w4, fun x y z e => ?_, r1', sem, r3', ?_, ?_⟩
      · unfold kput at e
        by_cases hxy : x = a ∧ y = c
        · rw [if_pos hxy] at e
          cases e
          obtain ⟨rfl, rfl⟩ := hxy
          refine ⟨by rw [List.length_append]; omega, by rw [List.length_append]; omega, r1', fun b => ?_, ?_⟩
          · rw [sem, w.ev_app w4 _ ha, w.ev_app w4 _ hc]
          · rw [pl_app ha, pl_app hc]; omega
        · rw [if_neg hxy] at e
          exact k3 x y z e
      · rcases r4 with ⟨rfl, hr⟩ | ⟨q1, q2, _⟩
        · by_cases hlh : l = h
          · subst hlh
            rcases g4 with rfl | g4
            · rw [hr rfl, List.append_nil, List.append_nil]
              exact l4
            · rcases m2 with _ | ⟨t, m2⟩
              · rw [hr rfl, List.append_nil, List.append_nil]
                exact l4
              · rw [List.length_append, List.length_cons] at g4
                omega
          · rcases g4 with rfl | g4
            · rcases l4 with rfl | l4
              · exact .inl rfl
              · exact absurd rfl (r5 hlh (.inl (by rw [List.append_nil]; omega)))
            · exact absurd rfl (r5 hlh (.inr (by omega)))
        · right
          rw [q2, ← eN, List.length_append (bs := m3), q1]
      · have b1 : 2 ^ (n - min (pl n ns A.1) (pl n ns C.1)) ≤ 2 ^ (n - p - 1) := Nat.pow_le_pow_right (by omega) (by omega)
        have b2 : 2 ^ (n - min (pl n ns A.2) (pl n ns C.2)) ≤ 2 ^ (n - p - 1) := Nat.pow_le_pow_right (by omega) (by omega)
        have b3 : 2 ^ (n - p) = 2 ^ (n - p - 1) + 2 ^ (n - p - 1) := by
          have : n - p = (n - p - 1) + 1 := by omega
          rw [this, Nat.pow_succ]
          simp only [Nat.add_sub_cancel]
          omega
        have b4 : m3.length ≤ 1 := by
          rcases r4 with ⟨rfl, _⟩ | ⟨q1, _, _⟩
          · simp
          · omega
        simp only [List.length_append]
        omega
end
/-! the opposite of a node -/
abbrev Kn1 := Nat → Option Nat
def kput1 (kn : Kn1) (a r : Nat) : Kn1 := fun x => if x = a then some r else kn x
def opp : Nat → List Nd → Kn1 → Nat → Option (Nat × List Nd × Kn1)
  | 0, _, _, _ => none
  | f + 1, ns, kn, a =>
    if a < 2 then some (1 - a, ns, kn)
    else match kn a with
    | some r => some (r, ns, kn)
    | none => match ns[a - 2]? with
      | none => none
      | some (p, l, h) => match opp f ns kn l with
        | none => none
        | some (l', ns1, kn1) => match opp f ns1 kn1 h with
          | none => none
          | some (h', ns2, kn2) => some ((made ns2 p l' h').1, (made ns2 p l' h').2, kput1 kn2 a (made ns2 p l' h').1)
def Kn1Ok (n : Nat) (ns : List Nd) (kn : Kn1) : Prop := ∀ a r, kn a = some r → a < ns.length + 2 ∧ r < ns.length + 2 ∧ (∀ b, ev ns r b = !ev ns a b) ∧ pl n ns a ≤ pl n ns r
theorem Kn1Ok.nil {n : Nat} {ns : List Nd} : Kn1Ok n ns fun _ => none := fun _ _ e => by cases e
theorem Kn1Ok.app {n : Nat} {ns m : List Nd} {kn : Kn1} (w : Wf n ns) (w2 : Wf n (ns ++ m)) (h : Kn1Ok n ns kn) : Kn1Ok n (ns ++ m) kn := fun a r e => by
  obtain ⟨h1, h3, h4, h5⟩ := h a r e
  rw [List.length_append]
  refine ⟨by omega, by omega, fun b => ?_, ?_⟩
  · rw [w.ev_app w2 r h3, w.ev_app w2 a h1]
    exact h4 b
  · rw [pl_app h1, pl_app h3]
    exact h5
section
variable {n : Nat} {ns : List Nd}
theorem Wf.opp : ∀ (f : Nat) (ns : List Nd) (kn : Kn1) (a : Nat), Wf n ns → Kn1Ok n ns kn → a < ns.length + 2 → n < f + pl n ns a →
    ∃ r m kn', opp f ns kn a = some (r, ns ++ m, kn') ∧ Wf n (ns ++ m) ∧ Kn1Ok n (ns ++ m) kn' ∧ r < (ns ++ m).length + 2 ∧ (∀ b, ev (ns ++ m) r b = !ev ns a b) ∧ pl n ns a ≤ pl n (ns ++ m) r ∧
      (m = [] ∨ r = (ns ++ m).length + 1) ∧ m.length + 1 ≤ 2 ^ (n - pl n ns a) := by
  intro f
  induction f with
  | zero =>
    intro ns kn a w _ ha hf
    have := w.pl_le ha
    omega
  | succ f ih =>
    intro ns kn a w hkn ha hf
    have one_le : 1 ≤ 2 ^ (n - pl n ns a) := Nat.one_le_two_pow
    have stays : ∀ r, r < ns.length + 2 → (∀ b, ev ns r b = !ev ns a b) → pl n ns a ≤ pl n ns r →
        ∃ r' m kn', some (r, ns, kn) = some (r', ns ++ m, kn') ∧ Wf n (ns ++ m) ∧ Kn1Ok n (ns ++ m) kn' ∧ r' < (ns ++ m).length + 2 ∧ (∀ b, ev (ns ++ m) r' b = !ev ns a b) ∧ pl n ns a ≤ pl n (ns ++ m) r' ∧
          (m = [] ∨ r' = (ns ++ m).length + 1) ∧ m.length + 1 ≤ 2 ^ (n - pl n ns a) := fun r h1 h2 h3 =>
      ⟨r, [], kn, by rw [List.append_nil], by rw [List.append_nil]; exact w, by rw [List.append_nil]; exact hkn, by rw [List.append_nil]; exact h1, by rw [List.append_nil]; exact h2, by rw [List.append_nil]; exact h3, .inl rfl, one_le⟩
    unfold Sh.opp
    by_cases h1 : a < 2
    · rw [if_pos h1]
      refine stays (1 - a) (by omega) (fun b => ?_) (by rw [pl_low h1, pl_low (by omega)]; exact Nat.le_refl _)
      rw [ev_low h1, ev_low (by omega)]
      rcases (by omega : a = 0 ∨ a = 1) with rfl | rfl <;> rfl
    rw [if_neg h1]
    cases hk : kn a with
    | some r =>
      obtain ⟨_, h6, h7, h8⟩ := hkn a r hk
      exact stays r h6 h7 h8
    | none =>
      obtain ⟨p, l, h, e⟩ := at_some (by omega : 2 ≤ a) ha
      obtain ⟨hpn, hlh, hl, hh, pl_, ph_⟩ := w.kids (by omega) e
      have ep := pl_at (n := n) (by omega : 2 ≤ a) e
      rw [ep] at hf ⊢
      rw [e]
      obtain ⟨l', m1, kn1, e1, w1, k1, l1, l2, l3, l4, l5⟩ := ih ns kn l w hkn (by omega) (by omega)
      have H2 : h < (ns ++ m1).length + 2 := by rw [List.length_append]; omega
      obtain ⟨h', m2, kn2, e2, w2, k2, g1, g2, g3, g4, g5⟩ := ih (ns ++ m1) kn1 h w1 k1 H2 (by rw [pl_app (by omega)]; omega)
      rw [pl_app (by omega)] at g3 g5
      have L2 : l' < (ns ++ m1 ++ m2).length + 2 := by rw [List.length_append]; omega
      have pL : pl n (ns ++ m1 ++ m2) l' = pl n (ns ++ m1) l' := pl_app l1
      obtain ⟨r, m3, e3, w3, r1, r2, r3, r4, r5⟩ := w2.made (p := p) (l := l') (h := h') hpn L2 g1 (by omega) (by omega)
      show ∃ r m kn', (match Sh.opp f ns kn l with
        | none => none
        | some (l', ns1, kn1) => match Sh.opp f ns1 kn1 h with
          | none => none
          | some (h', ns2, kn2) => some ((Sh.made ns2 p l' h').1, (Sh.made ns2 p l' h').2, kput1 kn2 a (Sh.made ns2 p l' h').1)) = some (r, ns ++ m, kn') ∧ _
      rw [e1]
      show ∃ r m kn', (match Sh.opp f (ns ++ m1) kn1 h with
          | none => none
          | some (h', ns2, kn2) => some ((Sh.made ns2 p l' h').1, (Sh.made ns2 p l' h').2, kput1 kn2 a (Sh.made ns2 p l' h').1)) = some (r, ns ++ m, kn') ∧ _
      rw [e2]
      show ∃ r m kn', some ((Sh.made (ns ++ m1 ++ m2) p l' h').1, (Sh.made (ns ++ m1 ++ m2) p l' h').2, kput1 kn2 a (Sh.made (ns ++ m1 ++ m2) p l' h').1) = some (r, ns ++ m, kn') ∧ _
      rw [e3]
      have eN : ns ++ m1 ++ m2 ++ m3 = ns ++ (m1 ++ (m2 ++ m3)) := by simp only [List.append_assoc]
      have w4 : Wf n (ns ++ (m1 ++ (m2 ++ m3))) := eN ▸ w3
      have r1' : r < (ns ++ (m1 ++ (m2 ++ m3))).length + 2 := eN ▸ r1
      have r3' : p ≤ pl n (ns ++ (m1 ++ (m2 ++ m3))) r := eN ▸ r3
      have sem : ∀ b, ev (ns ++ (m1 ++ (m2 ++ m3))) r b = !ev ns a b := fun b => by
        rw [← eN, r2, w.ev_at b (by omega) e]
        by_cases hb : b p = true
        · rw [if_pos hb, if_pos hb, g2, w.ev_app w1 _ (by omega)]
        · rw [if_neg hb, if_neg hb, w1.ev_app w2 _ l1, l2]
      have k3 : Kn1Ok n (ns ++ (m1 ++ (m2 ++ m3))) kn2 := eN ▸ k2.app w2 w3
      refine ⟨r, m1 ++ (m2 ++ m3), kput1 kn2 a r, by rw [← eN], w4, fun x z q => ?_, r1', sem, r3', ?_, ?_⟩
      · unfold kput1 at q
        by_cases hxy : x = a
        · rw [if_pos hxy] at q
          cases q
          subst hxy
          refine ⟨by rw [List.length_append]; omega, r1', fun b => ?_, ?_⟩
          · rw [sem, w.ev_app w4 _ ha]
          · rw [pl_app ha, pl_at (by omega) e]; omega
        · rw [if_neg hxy] at q
          exact k3 x z q
      · rcases r4 with ⟨rfl, hr⟩ | ⟨q1, q2, _⟩
        · by_cases hlh : l' = h'
          · subst hlh
            rcases g4 with rfl | g4
            · rw [hr rfl, List.append_nil, List.append_nil]
              exact l4
            · rcases m2 with _ | ⟨t, m2⟩
              · rw [hr rfl, List.append_nil, List.append_nil]
                exact l4
              · rw [List.length_append, List.length_cons] at g4
                omega
          · rcases g4 with rfl | g4
            · rcases l4 with rfl | l4
              · exact .inl rfl
              · exact absurd rfl (r5 hlh (.inl (by rw [List.append_nil]; omega)))
            · exact absurd rfl (r5 hlh (.inr (by omega)))
        · right
          rw [q2, ← eN, List.length_append (bs := m3), q1]
      · have b1 : 2 ^ (n - pl n ns l) ≤ 2 ^ (n - p - 1) := Nat.pow_le_pow_right (by omega) (by omega)
        have b2 : 2 ^ (n - pl n ns h) ≤ 2 ^ (n - p - 1) := Nat.pow_le_pow_right (by omega) (by omega)
        have b3 : 2 ^ (n - p) = 2 ^ (n - p - 1) + 2 ^ (n - p - 1) := by
          have : n - p = (n - p - 1) + 1 := by omega
          rw [this, Nat.pow_succ]
          simp only [Nat.add_sub_cancel]
          omega
        have b4 : m3.length ≤ 1 := by
          rcases r4 with ⟨rfl, _⟩ | ⟨q1, _, _⟩
          · simp
          · omega
        simp only [List.length_append]
        omega
/-- what is there already is not made again -/
theorem last_old {m : List Nd} {r r0 : Nat} (w : Wf n ns) (w2 : Wf n (ns ++ m)) (hl : m = [] ∨ r = (ns ++ m).length + 1) (hr : r < (ns ++ m).length + 2) (h0 : r0 < ns.length + 2) (he : ∀ b, ev (ns ++ m) r b = ev ns r0 b) : m = [] ∧ r = r0 := by
  have e : r = r0 := w2.canon hr (by rw [List.length_append]; omega) fun b => by rw [he, w.ev_app w2 _ h0]
  refine ⟨?_, e⟩
  rcases hl with h | h
  · exact h
  · rcases m with _ | ⟨t, m⟩
    · rfl
    · rw [List.length_append, List.length_cons] at h
      omega
/-- how many nodes there may be in all: those behind the most are refused -/
def most : Nat := 2000
end
end Sh

set_option Elab.async false
set_option linter.all false
set_option maxRecDepth 100000
/-! chains: nodes of which one side is the end, and what is joined to them -/
namespace Sh
def Ch (stop : Nat) (ns : List Nd) : Nat → Nat → Prop
  | 0, a => a < 2
  | k + 1, a => a < 2 ∨ ∃ p l h, 2 ≤ a ∧ ns[a - 2]? = some (p, l, h) ∧ ((l = stop ∧ Ch stop ns k h) ∨ (h = stop ∧ Ch stop ns k l))
theorem Ch.low {stop : Nat} {ns : List Nd} : ∀ {k a : Nat}, a < 2 → Ch stop ns k a
  | 0, _, h => h
  | _ + 1, _, h => .inl h
theorem getE_app {ns m : List Nd} {i : Nat} {t : Nd} (e : ns[i]? = some t) : (ns ++ m)[i]? = some t := by
  rw [List.getElem?_append_left (List.getElem?_eq_some_iff.mp e).1]
  exact e
theorem Ch.app {stop : Nat} {ns m : List Nd} : ∀ {k a : Nat}, Ch stop ns k a → Ch stop (ns ++ m) k a
  | 0, _, h => h
  | k + 1, a, .inl h => .inl h
  | k + 1, a, .inr ⟨p, l, h, h2, e, .inl ⟨x, y⟩⟩ => .inr ⟨p, l, h, h2, getE_app e, .inl ⟨x, y.app⟩⟩
  | k + 1, a, .inr ⟨p, l, h, h2, e, .inr ⟨x, y⟩⟩ => .inr ⟨p, l, h, h2, getE_app e, .inr ⟨x, y.app⟩⟩
theorem Ch.more {stop : Nat} {ns : List Nd} : ∀ {k a : Nat}, Ch stop ns k a → Ch stop ns (k + 1) a
  | 0, _, h => .inl h
  | k + 1, a, .inl h => .inl h
  | k + 1, a, .inr ⟨p, l, h, h2, e, .inl ⟨x, y⟩⟩ => .inr ⟨p, l, h, h2, e, .inl ⟨x, y.more⟩⟩
  | k + 1, a, .inr ⟨p, l, h, h2, e, .inr ⟨x, y⟩⟩ => .inr ⟨p, l, h, h2, e, .inr ⟨x, y.more⟩⟩
theorem Ch.le {stop : Nat} {ns : List Nd} {k j a : Nat} (h : Ch stop ns k a) (hk : k ≤ j) : Ch stop ns j a := by
  induction hk with
  | refl => exact h
  | step _ ih => exact ih.more
def Lit (ns : List Nd) (b : Nat) : Prop := ∃ p l h, 2 ≤ b ∧ ns[b - 2]? = some (p, l, h) ∧ l < 2 ∧ h < 2 ∧ l ≠ h
theorem Lit.app {ns m : List Nd} {b : Nat} (h : Lit ns b) : Lit (ns ++ m) b := let ⟨p, l, g, h2, e, x⟩ := h; ⟨p, l, g, h2, getE_app e, x⟩
theorem Lit.ch {stop : Nat} {ns : List Nd} {b : Nat} (hs : stop < 2) (h : Lit ns b) : Ch stop ns 1 b := by
  obtain ⟨p, l, g, h2, e, h3, h4, h5⟩ := h
  refine .inr ⟨p, l, g, h2, e, ?_⟩
  by_cases z : l = stop
  · exact .inl ⟨z, h4⟩
  · exact .inr ⟨by omega, h3⟩
theorem made_ch {stop K p x y r : Nat} {ns ns' : List Nd} (hs : stop < 2) (h : (x = stop ∧ Ch stop ns K y) ∨ (y = stop ∧ Ch stop ns K x)) (e : made ns p x y = (r, ns')) : ∃ m, ns' = ns ++ m ∧ m.length ≤ 1 ∧ Ch stop ns' (K + 1) r := by
  unfold made at e
  by_cases hxy : x = y
  · rw [if_pos hxy] at e
    cases e
    refine ⟨[], by simp, by simp, Ch.low ?_⟩
    rcases h with ⟨h, _⟩ | ⟨h, _⟩ <;> omega
  · rw [if_neg hxy] at e
    cases en : num? ns 0 (p, x, y) with
    | some k =>
      rw [en] at e
      cases e
      obtain ⟨j, rfl, hj⟩ := num_some en
      exact ⟨[], by simp, by simp, .inr ⟨p, x, y, by omega, by rw [show 0 + j + 2 - 2 = j by omega]; exact hj, h⟩⟩
    | none =>
      rw [en] at e
      cases e
      refine ⟨[(p, x, y)], rfl, by simp, .inr ⟨p, x, y, by omega, ?_, h.imp (fun z => ⟨z.1, z.2.app⟩) fun z => ⟨z.1, z.2.app⟩⟩⟩
      rw [Nat.add_sub_cancel, List.getElem?_append_right (Nat.le_refl _), Nat.sub_self]
      rfl
theorem join_stopL {n stop f c : Nat} {ns : List Nd} {kn : Kn} {t : Nat × List Nd × Kn} (e : join n stop f ns kn stop c = some t) : t = (stop, ns, kn) := by
  cases f with
  | zero => simp [join] at e
  | succ f =>
    rw [join, if_pos (.inl rfl)] at e
    cases e
    rfl
theorem join_low {n stop f a c : Nat} {ns : List Nd} {kn : Kn} {t : Nat × List Nd × Kn} (hs : stop < 2) (hc : c < 2) (e : join n stop f ns kn a c = some t) : t = (if c = stop then stop else a, ns, kn) := by
  cases f with
  | zero => simp [join] at e
  | succ f =>
    rw [join] at e
    by_cases h1 : a = stop ∨ c = stop
    · rw [if_pos h1] at e
      cases e
      by_cases z : c = stop
      · rw [if_pos z]
      · rw [if_neg z, h1.resolve_right z]
    · rw [if_neg h1] at e
      by_cases h2 : a = 1 - stop ∨ a = c
      · rw [if_pos h2] at e
        cases e
        rw [if_neg (fun z => h1 (.inr z)), show c = a by omega]
      · rw [if_neg h2, if_pos (show c = 1 - stop by omega)] at e
        cases e
        rw [if_neg (fun z => h1 (.inr z))]
theorem join_ch {n stop : Nat} (hs : stop < 2) : ∀ (k f : Nat) {ns : List Nd} {a b r : Nat} {ns' : List Nd} {kn' : Kn}, Ch stop ns k a → Lit ns b → join n stop f ns (fun _ _ => none) a b = some (r, ns', kn') →
    ∃ m, ns' = ns ++ m ∧ m.length ≤ k + 1 ∧ Ch stop ns' (k + 1) r := by
  intro k
  induction k with
  | zero =>
    intro f ns a b r ns' kn' hc hb e
    have ha : a < 2 := hc
    obtain ⟨q, lb, gb, h2b, eb, hl2, hh2, hne⟩ := id hb
    cases f with
    | zero => simp [join] at e
    | succ f =>
      rw [join] at e
      by_cases h1 : a = stop ∨ b = stop
      · rw [if_pos h1] at e
        cases e
        exact ⟨[], by simp, by simp, Ch.low hs⟩
      · rw [if_neg h1, if_pos (show a = 1 - stop ∨ a = b by omega)] at e
        cases e
        exact ⟨[], by simp, by simp, hb.ch hs⟩
  | succ k ih =>
    intro f ns a b r ns' kn' hc hb e
    obtain ⟨q, lb, gb, h2b, eb, hl2, hh2, hne⟩ := id hb
    cases f with
    | zero => simp [join] at e
    | succ f =>
      rw [join] at e
      by_cases h1 : a = stop ∨ b = stop
      · rw [if_pos h1] at e
        cases e
        exact ⟨[], by simp, by simp, Ch.low hs⟩
      rw [if_neg h1] at e
      by_cases h2 : a = 1 - stop ∨ a = b
      · rw [if_pos h2] at e
        cases e
        exact ⟨[], by simp, by simp, (hb.ch hs).le (by omega)⟩
      rw [if_neg h2, if_neg (show ¬ b = 1 - stop by omega)] at e
      dsimp only at e
      have ha2 : 2 ≤ a := by omega
      rcases hc with hc | ⟨p, l, g, _, ea, hlg⟩
      · omega
      have pa : pl n ns a = p := pl_at ha2 ea
      have pb : pl n ns b = q := pl_at h2b eb
      rw [pa, pb] at e
      cases e1 : join n stop f ns (fun _ _ => none) (below n ns a (min p q)).1 (below n ns b (min p q)).1 with
      | none => rw [e1] at e; cases e
      | some t1 =>
        obtain ⟨x, ns1, kn1⟩ := t1
        rw [e1] at e
        dsimp only at e
        cases e2 : join n stop f ns1 kn1 (below n ns a (min p q)).2 (below n ns b (min p q)).2 with
        | none => rw [e2] at e; cases e
        | some t2 =>
          obtain ⟨y, ns2, kn2⟩ := t2
          rw [e2] at e
          dsimp only at e
          injection e with e
          injection e with er e
          injection e with en _
          have em : made ns2 (min p q) x y = (r, ns') := by rw [← er, ← en]
          rcases Nat.lt_trichotomy p q with hpq | hpq | hpq
          · rw [Nat.min_eq_left (by omega)] at e1 e2 em
            have ba : below n ns a p = (l, g) := by unfold below; rw [pa, if_neg (Nat.lt_irrefl _), ea]
            have bb : below n ns b p = (b, b) := by unfold below; rw [pb, if_pos hpq]
            rw [ba, bb] at e1 e2
            rcases hlg with ⟨rfl, hg⟩ | ⟨rfl, hl⟩
            · have := join_stopL e1
              cases this
              obtain ⟨m, rfl, hm, hy⟩ := ih f hg hb e2
              obtain ⟨m2, rfl, hm2, hr⟩ := made_ch hs (.inl ⟨rfl, hy⟩) em
              exact ⟨m ++ m2, by rw [List.append_assoc], by rw [List.length_append]; omega, hr⟩
            · have := join_stopL e2
              cases this
              obtain ⟨m, rfl, hm, hx⟩ := ih f hl hb e1
              obtain ⟨m2, rfl, hm2, hr⟩ := made_ch hs (.inr ⟨rfl, hx⟩) em
              exact ⟨m ++ m2, by rw [List.append_assoc], by rw [List.length_append]; omega, hr⟩
          · subst hpq
            rw [Nat.min_self] at e1 e2 em
            have ba : below n ns a p = (l, g) := by unfold below; rw [pa, if_neg (Nat.lt_irrefl _), ea]
            have bb : below n ns b p = (lb, gb) := by unfold below; rw [pb, if_neg (Nat.lt_irrefl _), eb]
            rw [ba, bb] at e1 e2
            cases join_low hs hl2 e1
            cases join_low hs hh2 e2
            have hl' : Ch stop ns k l := by
              rcases hlg with ⟨z, _⟩ | ⟨_, z⟩
              · exact Ch.low (by omega)
              · exact z
            have hg' : Ch stop ns k g := by
              rcases hlg with ⟨_, z⟩ | ⟨z, _⟩
              · exact z
              · exact Ch.low (by omega)
            by_cases z : lb = stop
            · rw [if_pos z, if_neg (by omega)] at em
              obtain ⟨m2, rfl, hm2, hr⟩ := made_ch hs (.inl ⟨rfl, hg'⟩) em
              exact ⟨m2, rfl, by omega, hr.more⟩
            · rw [if_neg z, if_pos (by omega)] at em
              obtain ⟨m2, rfl, hm2, hr⟩ := made_ch hs (.inr ⟨rfl, hl'⟩) em
              exact ⟨m2, rfl, by omega, hr.more⟩
          · rw [Nat.min_eq_right (by omega)] at e1 e2 em
            have ba : below n ns a q = (a, a) := by unfold below; rw [pa, if_pos hpq]
            have bb : below n ns b q = (lb, gb) := by unfold below; rw [pb, if_neg (Nat.lt_irrefl _), eb]
            rw [ba, bb] at e1 e2
            cases join_low hs hl2 e1
            cases join_low hs hh2 e2
            have hca : Ch stop ns (k + 1) a := .inr ⟨p, l, g, ha2, ea, hlg⟩
            by_cases z : lb = stop
            · rw [if_pos z, if_neg (by omega)] at em
              obtain ⟨m2, rfl, hm2, hr⟩ := made_ch hs (.inl ⟨rfl, hca⟩) em
              exact ⟨m2, rfl, by omega, hr⟩
            · rw [if_neg z, if_pos (by omega)] at em
              obtain ⟨m2, rfl, hm2, hr⟩ := made_ch hs (.inr ⟨rfl, hca⟩) em
              exact ⟨m2, rfl, by omega, hr⟩
/-- a contact, and its opposite -/
theorem made_lit {p r : Nat} {ns ns' : List Nd} {l h : Nat} (hl : l < 2) (hh : h < 2) (hne : l ≠ h) (e : made ns p l h = (r, ns')) : ∃ m, ns' = ns ++ m ∧ m.length ≤ 1 ∧ Lit ns' r := by
  unfold made at e
  rw [if_neg hne] at e
  cases en : num? ns 0 (p, l, h) with
  | some k =>
    rw [en] at e
    cases e
    obtain ⟨j, rfl, hj⟩ := num_some en
    exact ⟨[], by simp, by simp, p, l, h, by omega, by rw [show 0 + j + 2 - 2 = j by omega]; exact hj, hl, hh, hne⟩
  | none =>
    rw [en] at e
    cases e
    refine ⟨[(p, l, h)], rfl, by simp, p, l, h, by omega, ?_, hl, hh, hne⟩
    rw [Nat.add_sub_cancel, List.getElem?_append_right (Nat.le_refl _), Nat.sub_self]
    rfl
theorem opp_low {f a : Nat} {ns : List Nd} {kn : Kn1} {t : Nat × List Nd × Kn1} (ha : a < 2) (e : opp f ns kn a = some t) : t = (1 - a, ns, kn) := by
  cases f with
  | zero => simp [opp] at e
  | succ f =>
    rw [opp, if_pos ha] at e
    cases e
    rfl
theorem opp_lit {f b r : Nat} {ns ns' : List Nd} {kn' : Kn1} (hb : Lit ns b) (e : opp f ns (fun _ => none) b = some (r, ns', kn')) : ∃ m, ns' = ns ++ m ∧ m.length ≤ 1 ∧ Lit ns' r := by
  obtain ⟨p, l, h, h2, eb, h3, h4, h5⟩ := hb
  cases f with
  | zero => simp [opp] at e
  | succ f =>
    rw [opp, if_neg (by omega)] at e
    dsimp only at e
    rw [eb] at e
    dsimp only at e
    cases e1 : opp f ns (fun _ => none) l with
    | none => rw [e1] at e; cases e
    | some t1 =>
      cases opp_low h3 e1
      rw [e1] at e
      dsimp only at e
      cases e2 : opp f ns (fun _ => none) h with
      | none => rw [e2] at e; cases e
      | some t2 =>
        cases opp_low h4 e2
        rw [e2] at e
        dsimp only at e
        injection e with e
        injection e with er e
        injection e with en _
        exact made_lit (by omega) (by omega) (by omega) (show made ns p (1 - l) (1 - h) = (r, ns') by rw [← er, ← en])
/-- the opposite of a chain -/
theorem opp_ch {stop : Nat} (hs : stop < 2) : ∀ (k f : Nat) {ns : List Nd} {a r : Nat} {ns' : List Nd} {kn' : Kn1}, Ch stop ns k a → opp f ns (fun _ => none) a = some (r, ns', kn') → ∃ m, ns' = ns ++ m ∧ m.length ≤ k ∧ Ch (1 - stop) ns' k r := by
  intro k
  induction k with
  | zero =>
    intro f ns a r ns' kn' hc e
    cases opp_low hc e
    exact ⟨[], by simp, by simp, Ch.low (by omega)⟩
  | succ k ih =>
    intro f ns a r ns' kn' hc e
    rcases hc with hc | ⟨p, l, g, h2, ea, hlg⟩
    · cases opp_low hc e
      exact ⟨[], by simp, by simp, Ch.low (by omega)⟩
    cases f with
    | zero => simp [opp] at e
    | succ f =>
      rw [opp, if_neg (by omega)] at e
      dsimp only at e
      rw [ea] at e
      dsimp only at e
      cases e1 : opp f ns (fun _ => none) l with
      | none => rw [e1] at e; cases e
      | some t1 =>
        obtain ⟨x, ns1, kn1⟩ := t1
        rw [e1] at e
        dsimp only at e
        cases e2 : opp f ns1 kn1 g with
        | none => rw [e2] at e; cases e
        | some t2 =>
          obtain ⟨y, ns2, kn2⟩ := t2
          rw [e2] at e
          dsimp only at e
          injection e with e
          injection e with er e
          injection e with en _
          have em : made ns2 p x y = (r, ns') := by rw [← er, ← en]
          rcases hlg with ⟨rfl, hg⟩ | ⟨rfl, hl⟩
          · cases opp_low hs e1
            obtain ⟨m, rfl, hm, hy⟩ := ih f hg e2
            obtain ⟨m2, rfl, hm2, hr⟩ := made_ch (by omega) (.inl ⟨rfl, hy⟩) em
            exact ⟨m ++ m2, by rw [List.append_assoc], by rw [List.length_append]; omega, hr⟩
          · obtain ⟨m, rfl, hm, hx⟩ := ih f hl e1
            cases opp_low hs e2
            obtain ⟨m2, rfl, hm2, hr⟩ := made_ch (by omega) (.inr ⟨rfl, hx⟩) em
            exact ⟨m ++ m2, by rw [List.append_assoc], by rw [List.length_append]; omega, hr⟩
end Sh

set_option Elab.async false
set_option linter.all false
set_option maxRecDepth 100000
set_option maxHeartbeats 2000000
/-! enumerate(list or tuple) -/
namespace PySem
open Sem (wp)
open AutoSeq1 (wpAny_loadPart')
theorem meets_enumerate_newT (l : Addr) (items : Array Value) (n : Nat) (dct : Option Addr) (sl : Array (Option Value)) :
    Meets (Builtin.«enumerate.__new__» ⟨[.type "enumerate", .ref l], []⟩) (fun _ R s => s.heap.get? l = some { cls := .type "tuple", dict := dct, data := .seq items n, slots := sl } ∧
      R (.ok (.ret (.ref (s.heap.push { cls := .type "tuple_iterator", data := .fields #[.ref l, .int 0 0] }).objs.size)))
        { s with heap := (s.heap.push { cls := .type "tuple_iterator", data := .fields #[.ref l, .int 0 0] }).push { cls := .type "enumerate", data := .fields #[.none, .bool false, .ref s.heap.objs.size, rawInt 0, .none, .none] } }) :=
  .of_wp fun prog w A R s h => by
    obtain ⟨hp, g, d, tk, os⟩ := s; obtain ⟨hl, h⟩ := h
    have hsub := sub_enumerate
    have hL : Heap.IsTuple (Shared.heap ⟨hp, g, d, tk, os⟩) l items := ⟨_, hl, rfl, n, rfl⟩
    wp_walk using wpAny_loadPart' hl
    refine wpAny_stack_any fun st => wpAny_pure ?_
    split
    · rename_i c _ _ _ _ _
      cases (c == Value.type "enumerate")
      · wp_walk using wpAny_loadPart' hl, wpAny_pyIter_tuple hL
        exact ⟨_, rfl, h⟩
      · wp_walk using wpAny_loadPart' hl, wpAny_pyIter_tuple hL
        exact ⟨_, rfl, h⟩
    · wp_walk using wpAny_loadPart' hl, wpAny_pyIter_tuple hL
      exact ⟨_, rfl, h⟩
theorem call_enumerate_tuple {prog : Program} {w : World} {A : Around} {E : Value → Shared → Prop} {s : Shared} {l : Addr} {items : Array Value} {Q : Value → Shared → Prop} (hL : s.heap.IsTuple l items)
    (h : ∀ h', IsEnum h' (s.heap.objs.size + 1) s.heap.objs.size 0 .none → h'.IsTupleIter s.heap.objs.size l 0 → h'.objs.size = s.heap.objs.size + 2 →
      (∀ b o, s.heap.get? b = some o → h'.get? b = some o) → Q (.ref (s.heap.objs.size + 1)) { s with heap := h' }) :
    wpAny (model prog w) A (call (.type "enumerate") [.ref l]) Q E s := by
  obtain ⟨⟨c, dct, dt, sl⟩, hl, hc, n, hd⟩ := hL
  replace hc : c = .type "tuple" := hc
  replace hd : dt = .seq items n := hd
  subst hc hd
  refine callType_new F.called_enumerate (by decide) (F.typeCall_enumerate_1 _) (F.newCall_enumerate_1 _) (fun obj => F.args_object_init_2 obj _) F.entry_enumerate_new
    (meets_enumerate_newT l items n dct sl) ⟨hl, ?_⟩
  have hz : (s.heap.push { cls := .type "tuple_iterator", data := .fields #[.ref l, .int 0 0] }).objs.size = s.heap.objs.size + 1 := Heap.size_push ..
  show _ ∧ _
  rw [hz]
  have he : IsEnum ((s.heap.push { cls := .type "tuple_iterator", data := .fields #[.ref l, .int 0 0] }).push
      { cls := .type "enumerate", data := .fields #[.none, .bool false, .ref s.heap.objs.size, rawInt 0, .none, .none] }) (s.heap.objs.size + 1) s.heap.objs.size 0 .none := by
    have := Heap.get?_push_size (s.heap.push { cls := .type "tuple_iterator", data := .fields #[.ref l, .int 0 0] })
      (o := { cls := .type "enumerate", data := .fields #[.none, .bool false, .ref s.heap.objs.size, rawInt 0, .none, .none] }) rfl
    rw [hz] at this; exact this
  refine ⟨⟨_, he, rfl⟩, h _ he ⟨_, Heap.get?_push_of_some _ (Heap.get?_push_size _ rfl), rfl, rfl⟩ (by rw [Heap.size_push, hz]) fun b o x => Heap.get?_push_of_some _ (Heap.get?_push_of_some _ x)⟩
theorem wpAny_pyNext_enum_endT {prog : Program} {w : World} {A : Around} {E : Value → Shared → Prop} {s : Shared} {e it l : Addr} {i : Nat} {items : Array Value} {old : Value} {Q : Option Value → Shared → Prop} (hh : A.handled = none)
    (he : IsEnum s.heap e it i old) (hit : s.heap.IsTupleIter it l i) (hl : s.heap.IsTuple l items) (hx : items[i]? = none)
    (hQ : ∀ h', Heap.ExtBut it s.heap h' → Q none { s with heap := h' }) : wpAny (model prog w) A (pyNext (.ref e)) Q E s := by
  have hT : s.TypeIs (.ref e) "enumerate" := ⟨_, he, rfl⟩
  unfold pyNext
  refine wpAny_bind (wpAny_attempt (wpAny_callSpecial?_slot (name := Str.ofString "__next__") hT F.slot_enumerate_next
    (wpAny_call_entry F.slot_enumerate_next hT F.entry_enumerate_next ?_ (F.args_enumerate_next_1 _))))
  show wpAny _ _ (field (.ref e) 2 >>= _) _ _ _
  refine wpAny_bind (wpAny_field he rfl (x := .ref it) rfl ?_)
  refine wpAny_bind (wpAny_nextOf_tuple_end hh hit hl hx fun h' x he' hx' => ?_)
  obtain ⟨o, ho, hc⟩ := hx'
  refine wpAny_bind (wpAny_isInstance (T := "StopIteration") (b := true) ⟨o, ho, hc⟩ isSubtype_stop ?_)
  exact wpAny_pure (hQ _ he')
end PySem
namespace Ru
open PySem PySem.Spec PyProof.Rows L2
/-- the tuple at a as it stands at each turn, each item in a new pair -/
def IteT (K : PySem.W.Frag) (a : Addr) : It :=
  ⟨fun i H => ∃ (xs : List V) (x : V), SqT K H a xs ∧ xs[i]? = some x, fun i H v H' => ∃ T x, v = .ref T ∧ H T = none ∧ H' = upd H T (.tup [.int (i : Nat), x]) ∧ ∀ xs, SqT K H a xs → xs[i]? = some x, fun i H => ∃ xs : List V, SqT K H a xs ∧ xs.length ≤ i⟩
theorem turn_enumT {P : Program} {w : World} {K : PySem.W.Frag} {elts : List Expr} {kk : Nat} {tpos : Pos} (a e it : Addr) :
    Turn P w K (.Tuple elts kk tpos) (IteT K a) [e, it] e (fun i h => (∃ old, IsEnum h e it ((i : Nat) : Int) old) ∧ h.IsTupleIter it a i ∧ e ≠ it) where
  mem := by simp
  obj := fun i h st b hb => by
    obtain ⟨⟨old, he⟩, ⟨o, ho, hc, hd⟩, _⟩ := st
    have e' : b = e ∨ b = it := by simpa using hb
    rcases e' with z | z
    · rw [z]; exact ⟨_, he, fun v q => nomatch q⟩
    · rw [z]; exact ⟨o, ho, fun v q => by rw [hd] at q; cases q⟩
  keep := fun i h h' st k => let ⟨⟨old, he⟩, hi, hne⟩ := st; ⟨⟨old, k e (by simp) _ he⟩, hi.at fun o q => k it (by simp) o q, hne⟩
  item := by
    intro X hP hw hK hc i pins s σ H E I hf st hg
    subst hP hw hK
    obtain ⟨⟨old, he⟩, hit, hne⟩ := st
    obtain ⟨xs, x, hq, hx⟩ := hg
    obtain ⟨its, rv, p, hz⟩ := I.tuple hq
    obtain ⟨u, hu, ru⟩ := rv.get hx
    have hel : e < s.heap.objs.size := Heap.lt_size he
    have hil : it < s.heap.objs.size := by obtain ⟨_, q, _⟩ := hit; exact Heap.lt_size q
    have pT : s.heap.IsTuple a its.toArray := p
    have hal : a ≠ it := fun z => by
      obtain ⟨o, ho, hcl, _⟩ := hit
      obtain ⟨o2, ho2, hcl2, _⟩ := pT
      rw [z, ho] at ho2
      cases ho2
      rw [hcl] at hcl2
      exact absurd hcl2 (by simp)
    have hae : e ∉ [it, a] := fun z => by
      rcases List.mem_cons.mp z with z | z
      · exact hne z
      · have z := List.mem_singleton.mp z
        obtain ⟨o2, ho2, hcl2, _⟩ := pT
        rw [← z, he] at ho2
        cases ho2
        exact absurd hcl2 (by simp)
    have hlt : i < its.toArray.size := by
      have := (List.getElem?_eq_some_iff.mp hu).1
      simpa using this
    refine wpAny_pyNext_enum_itemD (Draws.tuple (prog := X.prog) (w := X.w) (A := X.A.in1) (I.ok.hd hc) it a hal its.toArray) he ⟨hit, pT⟩ hlt hne hae fun u' h' tk hu' ho hst hT hsz hk => ?_
    have hu' : its.toArray[i]? = some u' := hu'
    have eu : u' = u := by
      have : its.toArray[i]? = some u := by simpa using hu
      rw [hu'] at this
      cases this
      rfl
    subst eu
    refine ⟨_, rfl, wpAny_letOwnedTupleGo_enum (s := { s with heap := h', toks := tk + 1 }) ho fun h'' he' sb => ?_⟩
    have hT2 : h''.get? s.heap.objs.size = some { cls := .type "tuple", data := .seq #[.int i tk, u'] } := (sb.2 _ (Nat.ne_of_gt hel)).trans hT
    have new : ObjOk X.prog X.w (upd H s.heap.objs.size (.tup [.int (i : Nat), x])) h'' s.heap.objs.size (.tup [.int (i : Nat), x]) :=
      ⟨by show 2 ≤ sizeLine; decide, [.int i tk, u'], .cons ⟨_, rfl⟩ (.cons ru .nil), ⟨_, hT2, rfl, _, rfl⟩⟩
    have I1 : Inv X pins σ (upd H s.heap.objs.size (.tup [.int (i : Nat), x])) { s with heap := h'', toks := tk + 1 } :=
      I.turnedNew (ch := [e, it]) (fun b ob hb q => (sb.2 b (fun z => hb (by simp [z]))).trans (hk b ob (fun z => hb (by simp [z])) (fun z => hb (by simp [z])) q)) hf (Nat.le_refl _) new
    have hit' : h'.IsTupleIter it a (i + 1) := hst.1
    refine ⟨.ref s.heap.objs.size, _, I1, rfl, ⟨_, x, rfl, I.hok.fresh (Nat.le_refl _), rfl, fun ys hy => by rw [I.tuple_inj hy hq]; exact hx⟩, ⟨⟨u', ?_⟩, hit'.at fun o q => (sb.2 it (Ne.symm hne)).trans q, hne⟩, fun b hb => ?_⟩
    · have e1 : ((i + 1 : Nat) : Int) = (i : Int) + 1 := by omega
      rw [e1]; exact he'
    · have hb' : b < s.heap.objs.size := by
        have e' : b = e ∨ b = it := by simpa using hb
        rcases e' with z | z
        · rw [z]; exact hel
        · rw [z]; exact hil
      rw [upd_ne (Nat.ne_of_lt hb')]
      exact (hf b hb).1
  done := by
    intro X hP hw hK hc i pins s σ H E I hf st hg
    subst hP hw hK
    obtain ⟨⟨old, he⟩, hit, hne⟩ := st
    obtain ⟨xs, hq, hx⟩ := hg
    obtain ⟨its, rv, p, hz⟩ := I.tuple hq
    obtain ⟨f0, f1, f2, f3, f4, f5⟩ := hf it (by simp)
    have hl := rv.length
    have pT : s.heap.IsTuple a its.toArray := p
    exact wpAny_pyNext_enum_endT (I.ok.hd hc) he hit pT (by simp; omega) fun h' eb => ⟨rfl, I.turned (t' := s.toks) (fun b o hb q => eb b o hb q) f0 f1 f3 f4 f5⟩
  self := fun A i s Q E st h => let ⟨⟨_, he⟩, _⟩ := st; wpAny_pyIter_enum he h
def iEnumA (K : PySem.W.Frag) (ta : TA) : TI := fun σ H R => ta σ H fun vs H1 => ∃ a xs, vs = [.ref a] ∧ ((SqL K H1 a xs ∧ R (Ite K a) H1) ∨ (SqT K H1 a xs ∧ R (IteT K a) H1))
theorem pi_enumA {X : Cx} {e : Expr} {ta : TA} {p pos tpos : Pos} {elts : List Expr} {kk : Nat} (hg : Gl X "enumerate") (hm : X.mg "enumerate" = none) (ha : PA X [e] ta) (hs : starEach [e] X.env = [(false, eval e X.env)] := by rfl) :
    PI X (.Tuple elts kk tpos) (.Call (.Name "enumerate" p) [e] [] pos) (iEnumA X.K ta) := by
  refine ⟨fun pins s σ H R I h => ?_⟩
  refine Call_ (ld_blt I hg hm boot_enumerate (PyProof.Rows.callWith_type1 (thn (ha.run pos pins s σ H _ I h) fun us s1 ⟨vs, H1, I1, r1, q1⟩ => ?_) hs rfl))
  obtain ⟨a, xs, ex, q⟩ := q1
  subst ex
  cases r1 with
  | cons r rr =>
    cases rr
    cases r
    have fin : ∀ {h' : Heap} {R' : It} {tn : Nat → Heap → Prop}, (∀ b o, s1.heap.get? b = some o → h'.get? b = some o) → Turn X.prog X.w X.K (.Tuple elts kk tpos) R' [s1.heap.objs.size + 1, s1.heap.objs.size] (s1.heap.objs.size + 1) tn → tn 0 h' → R R' H1 →
        PIE X pins σ (.Tuple elts kk tpos) R (.ref (s1.heap.objs.size + 1)) { s1 with heap := h' } := fun {h' R' tn} hk T st q => by
      have I2 : Inv X pins σ H1 { s1 with heap := h' } := I1.kept (t' := s1.toks) hk
      refine ⟨s1.heap.objs.size + 1, [s1.heap.objs.size + 1, s1.heap.objs.size], tn, R', H1, rfl, I2, T, st, fun b hb => ?_, q⟩
      have e' : b = s1.heap.objs.size + 1 ∨ b = s1.heap.objs.size := by simpa using hb
      have hle : s1.heap.objs.size ≤ b := by
        rcases e' with z | z
        · rw [z]; exact Nat.le_add_right _ _
        · rw [z]; exact Nat.le_refl _
      exact I1.fpOk hle (I1.hok.fresh hle)
    rcases q with ⟨hq, q⟩ | ⟨hq, q⟩
    · obtain ⟨its, rv, p', hz⟩ := I1.list hq
      exact call_enumerate_list p'.isList fun h' he hit hsz hk => wpAny_pyIter_enum he (fin hk (turn_enum a _ _) ⟨⟨.none, he⟩, hit, Nat.succ_ne_self _⟩ q)
    · obtain ⟨its, rv, p', hz⟩ := I1.tuple hq
      exact call_enumerate_tuple p' fun h' he hit hsz hk => wpAny_pyIter_enum he (fin hk (turn_enumT a _ _) ⟨⟨.none, he⟩, hit, Nat.succ_ne_self _⟩ q)
theorem walk_enumT {K : PySem.W.Frag} {a : Addr} {xs : List V} : Walk (IteT K a) xs.length (fun H => SqT K H a xs) (YPair (fun i => some (.int (i : Nat))) (fun i => xs[i]?)) := by
  refine ⟨fun i _ hi q => ⟨xs, xs[i], q, by simp [hi]⟩, fun _ q => ⟨xs, q, Nat.le_refl _⟩, fun i H v H' _ q y => ?_⟩
  obtain ⟨T, x, h1, h2, h3, h4⟩ := y
  exact ⟨T, _, x, h1, h2, h3, rfl, h4 xs q⟩
end Ru

set_option Elab.async false
set_option linter.all false
set_option maxRecDepth 100000
set_option maxHeartbeats 2000000
/-! list(d.keys()) -/
namespace Ru
open PySem PySem.Spec PyProof.Rows L2
def tLstKeys (td : TE) : TE := fun σ H Q => td σ H fun x H1 => ∃ d kvs, x = .ref d ∧ H1 d = some (.dK kvs) ∧ ∀ q, H1 q = none → Q (.ref q) (upd H1 q (.lst (kvs.map fun kv => kV kv.1)))
section
variable {X : Cx}
theorem pe_lstKeys {e : Expr} {td : TE} {p pos apos cpos : Pos} (hm : X.mg "list" = none) (he : PE X e td) (hc : X.calm = true := by rfl) (hg : Gl X "list" := by rfl) (hv : bootBuiltins "list" = some (.type "list") := by decide +kernel) (hbase : attributeBase e "keys" X.env (eval e X.env) = eval e X.env := by rfl) (hline : (apos.endLine == cpos.line) = true := by rfl)
    (na : starEach [.Call (.Attribute e "keys" apos) [] [] cpos] X.env = (false, eval (.Call (.Attribute e "keys" apos) [] [] cpos) X.env) :: starEach [] X.env := by rfl) :
    PE X (.Call (.Name "list" p) [.Call (.Attribute e "keys" apos) [] [] cpos] [] pos) (tLstKeys td) := by
  refine ⟨fun pins s σ H Q I h => ?_⟩
  refine Call_ (ld_blt I hg hm hv (PyProof.Rows.callWith_type1 (args_cons ?_ na) na))
  refine wpAny_Call_method (T := "dict") (id := "dict.keys") hbase rfl hline F.plainAttrs_dict F.slot_dict_keys F.type_dict_keys (thn (he.run pins s σ H _ I h) fun u s1 ⟨x, H1, I1, rx, d, kvs, ex, hd, q⟩ => ?_)
  subst ex
  obtain rfl : u = Value.ref d := rx
  obtain ⟨z, lo, vs, rk, hdt⟩ := (show ObjOk X.prog X.w H1 s1.heap d (.dK kvs) from I1.hok d _ hd)
  obtain ⟨ep, hat⟩ := hdt.dictAt
  have hl : kvs.length = vs.length := Paired.length rk
  refine ⟨hat.dictOf.typeIs, hat.dictOf.mapOf.noDict, ?_⟩
  have k2 : ∀ b o, s1.heap.get? b = some o → (s1.heap.push { cls := .type "dict_keys", data := .fields #[.ref d] }).get? b = some o := fun b ob q => Heap.get?_push_of_some _ q
  have I2 : Inv X pins σ H1 { s1 with heap := s1.heap.push { cls := .type "dict_keys", data := .fields #[.ref d] } } := I1.kept (t' := s1.toks) k2
  have view : PySem.W.KdlKeysView (s1.heap.push { cls := .type "dict_keys", data := .fields #[.ref d] }) s1.heap.objs.size d := ⟨_, Heap.get?_push_size _ rfl, rfl, rfl⟩
  have fin : wpAny (model X.prog X.w) X.A (call (.type "list") [.ref s1.heap.objs.size]) (EP X pins σ Q) X.xe { s1 with heap := s1.heap.push { cls := .type "dict_keys", data := .fields #[.ref d] } } := by
    refine PySem.W.kdl_call (PySem.W.kdl_keys (knd := mixKind X.prog X.w) (kvs := vs) (ep := ep) (d := d)) (I1.ok.hd hc) ⟨view, hat.push _⟩ (by rw [← hl]; exact z) fun h' tk acc' c' hkeep hS hacc => ?_
    refine ⟨.ref (s1.heap.push { cls := .type "dict_keys", data := .fields #[.ref d] }).objs.size, upd H1 (s1.heap.push { cls := .type "dict_keys", data := .fields #[.ref d] }).objs.size (.lst (kvs.map fun kv => kV kv.1)), I2.laid hkeep (Nat.le_refl _) (show ObjOk X.prog X.w _ _ _ (.lst (kvs.map fun kv => kV kv.1)) from ⟨?_, acc'.toList, c', ?_, ?_⟩), rfl, q _ (I2.hok.fresh (Nat.le_refl _))⟩
    · rw [List.length_map]; exact z
    · have el : acc'.toList.length = acc'.size := by simp
      refine vals_of_at (by rw [List.length_map, el, hacc.1, hl]) fun j x w h1 h2 => ?_
      obtain ⟨k, y, hky, hi⟩ := hacc.2 j w (by rw [← Array.getElem?_toList]; exact h2)
      have e1 : (kvs.map (·.1))[j]? = some k := by
        rw [KV.keys rk, List.getElem?_map, hky] <;> rfl
      have e2 : (kvs.map fun kv => kV kv.1)[j]? = some (kV k) := by
        have e3 : (kvs.map fun kv => kV kv.1) = (kvs.map (·.1)).map kV := by rw [List.map_map] <;> rfl
        rw [e3, List.getElem?_map, e1] <;> rfl
      rw [e2] at h1
      cases h1
      exact keyIs_rel hi
    · rw [Array.toArray_toList]
      exact hS
  show wpAny _ _ (callWith cpos (.builtin "dict.keys") [.ref d] [] []) _ X.xe s1
  exact method_meetsIn F.slot_dict_keys F.entry_dict_keys rfl (PySem.evalArgs_none ⟨rfl, hat.dictOf.typeIs, F.args_dict_keys_1 _, _, PySem.W.kdl_meets_keys (mixKind X.prog X.w) d lo, ⟨vs, hat.dictOf⟩, args_nil fin⟩)
end
end Ru

set_option Elab.async false
set_option linter.all false
set_option maxRecDepth 100000
set_option maxHeartbeats 2000000
namespace Hd
open PySem PySem.Spec PyProof.Rows L2 Ru
section
variable {K : PySem.W.Frag} {h : Heap} {mg : Str → Option Value}
theorem g_of (X : K.In h) (G : h.Ns mainGlobals mg) {x : Str} {a : Addr} (c : gB K x a = true) : mg x = some (.ref a) := PySem.W.mg_of X G (He.eqO_ok c)
theorem no_of (X : K.In h) (G : h.Ns mainGlobals mg) {x : Str} (c : noB K x = true) : mg x = none := PySem.W.mg_none_of X G (He.eqO_ok c)
theorem con_of (X : K.In h) (G : h.Ns mainGlobals mg) {x : Str} {v : V} (c : conB K x v = true) : GlobC mg x v := by
  unfold conB at c
  split at c
  · rename_i u e
    exact globC_mk X G e (He.relB_ok c)
  · cases c
theorem tup_of (X : K.In h) (G : h.Ns mainGlobals mg) {x : Str} {vs : List V} (c : tupB K x vs = true) : GlobT K mg x vs := by
  unfold tupB at c
  split at c
  · rename_i a e
    split at c
    · rename_i k od its n sl q
      obtain ⟨c1, c⟩ := two c
      obtain ⟨c2, c3⟩ := two c
      have ek := of_decide_eq_true c1
      subst ek
      exact globT_mk X G e q (of_decide_eq_true c2) (He.relAll_ok c3)
    · cases c
  · cases c
theorem cls_of (X : K.In h) (G : h.Ns mainGlobals mg) {x : Str} {C : Addr} (c : clsB K x C = true) : ClsAt K mg x C := by
  obtain ⟨a, c⟩ := two c
  obtain ⟨b, c⟩ := two c
  obtain ⟨d, c⟩ := two c
  obtain ⟨e, c⟩ := two c
  obtain ⟨f, c⟩ := two c
  obtain ⟨i, c⟩ := two c
  obtain ⟨j, c⟩ := two c
  obtain ⟨k, c⟩ := two c
  obtain ⟨l, c⟩ := two c
  obtain ⟨m, n⟩ := two c
  exact clsAt_mk X G (He.eqO_ok a) b d e (He.eqO_ok f) (He.eqO_ok i) (He.eqO_ok j) (of_decide_eq_true k) (of_decide_eq_true l) m n
theorem err_of (X : K.In h) (G : h.Ns mainGlobals mg) {x : Str} {C : Addr} (c : errB K x C = true) : ErrAt K mg x C := by
  obtain ⟨a, c⟩ := two c
  obtain ⟨b, c⟩ := two c
  obtain ⟨d, e⟩ := two c
  exact errAt_mk X G (He.eqO_ok a) (of_decide_eq_true b) (of_decide_eq_true d) e
theorem exc_of (X : K.In h) (G : h.Ns mainGlobals mg) {x : Str} {C L : Addr} (c : excB K x C L = true) : ExcAt K mg x C L := by
  obtain ⟨a, c⟩ := two c
  obtain ⟨b, c⟩ := two c
  obtain ⟨d, c⟩ := two c
  obtain ⟨e, c⟩ := two c
  obtain ⟨f, c⟩ := two c
  obtain ⟨i, c⟩ := two c
  obtain ⟨j, c⟩ := two c
  obtain ⟨k, c⟩ := two c
  obtain ⟨l, c⟩ := two c
  obtain ⟨m, c⟩ := two c
  obtain ⟨n, c⟩ := two c
  obtain ⟨o, p⟩ := two c
  unfold mroB at p
  split at p
  · rename_i cd q
    exact excAt_mk X G (He.eqO_ok a) b d (He.eqO_ok e) (He.eqO_ok f) (of_decide_eq_true i) j (He.eqO_ok k) (He.eqO_ok l) (of_decide_eq_true m) (of_decide_eq_true n) (of_decide_eq_true o) q (of_decide_eq_true p)
  · cases p
theorem na_of {C : Addr} {x : Str} (c : naB K C x = true) : NoAttr K C x := He.eqO_ok c
theorem one_of {a b : Addr} {r : Bool} (c : oneB K a b r = true) : PySem.W.kitOne K (.ref a) (.ref b) = some r := of_decide_eq_true c
/-! ## defs -/
theorem def_of (X : K.In h) (G : h.Ns mainGlobals mg) {x : Str} {st : Stmt} {ps : List Str} {f : Addr} (c : gB K x f = true) (F : ∃ fd, FunD K x x (defArgs st) (defBody st) (defScope st) [] [] f fd)
    (b : ∀ (kV doc pm : Value) (an : Option Addr) (cdv ct : Value) (us : List Value), us.length = ps.length → bindArgs (PySem.W.fnOf x x (defArgs st) (defBody st) (defScope st) .none kV doc pm an cdv ct) ⟨us, []⟩ = pure (ps.zip us)) : DefAt K mg x st ps := by
  obtain ⟨fd, F⟩ := F
  obtain ⟨⟨oc, od, kV, doc, pm, an, cdv, ct, osl, e, l, k⟩, kp⟩ := He5.fun_of F
  subst e
  exact defAt_mk X G (He.eqO_ok c) l k kp (b kV doc pm an cdv ct)
theorem law_of (X : K.In h) (G : h.Ns mainGlobals mg) {st : Stmt} {p : Str} {f : Addr} (c : gB K "law" f = true) (F : ∃ fd, FunD K "law" "law" (defArgs st) (defBody st) (defScope st) [] [] f fd)
    (b : ∀ (kV doc pm : Value) (an : Option Addr) (cdv ct : Value) (u : Value), bindArgs (PySem.W.fnOf "law" "law" (defArgs st) (defBody st) (defScope st) .none kV doc pm an cdv ct) ⟨[u], []⟩ = pure [(p, u)]) : LawAt K mg st p := by
  obtain ⟨fd, F⟩ := F
  obtain ⟨⟨oc, od, kV, doc, pm, an, cdv, ct, osl, e, l, k⟩, kp⟩ := He5.fun_of F
  subst e
  exact lawAt_mk X G (He.eqO_ok c) l k kp (b kV doc pm an cdv ct)
theorem met_of {C : Addr} {m qual : Str} {st : Stmt} {ps : List Str} (c : metB K C m = true) (F : ∃ fd, FunD K m qual (defArgs st) (defBody st) (defScope st) [] [] (He.ma K C m) fd)
    (b : ∀ (kV doc pm : Value) (an : Option Addr) (cdv ct : Value) (us : List Value), us.length = ps.length → bindArgs (PySem.W.fnOf m qual (defArgs st) (defBody st) (defScope st) .none kV doc pm an cdv ct) ⟨us, []⟩ = pure (ps.zip us)) : MethAt K C m qual st ps := by
  obtain ⟨fd, F⟩ := F
  obtain ⟨c1, c⟩ := two c
  obtain ⟨c2, c3⟩ := two c
  obtain ⟨⟨oc, od, kV, doc, pm, an, cdv, ct, osl, e, l, k⟩, kp⟩ := He5.fun_of F
  subst e
  exact methAt_mk (He.eqO_ok c1) c2 l k kp (b kV doc pm an cdv ct)
theorem cfn_of {C : Addr} {m qual : Str} {st : Stmt} {ps : List Str} (c : cfnB K C m = true) (F : ∃ fd, FunD K m qual (defArgs st) (defBody st) (defScope st) [] [] (ca K C m) fd)
    (b : ∀ (kV doc pm : Value) (an : Option Addr) (cdv ct : Value) (us : List Value), us.length = ps.length → bindArgs (PySem.W.fnOf m qual (defArgs st) (defBody st) (defScope st) .none kV doc pm an cdv ct) ⟨us, []⟩ = pure (ps.zip us)) : ClsFnAt K C m qual st ps := by
  obtain ⟨fd, F⟩ := F
  obtain ⟨c1, c⟩ := two c
  obtain ⟨c2, c3⟩ := two c
  obtain ⟨⟨oc, od, kV, doc, pm, an, cdv, ct, osl, e, l, k⟩, kp⟩ := He5.fun_of F
  subst e
  refine clsFnAt_mk c1 (He.eqO_ok c2) ?_ l k kp (b kV doc pm an cdv ct)
  unfold ca
  split at c3
  · rename_i f q
    rw [q]
  · cases c3
end
/-! ## a law's end -/
theorem walk {l : PySem.W.OpenLaw} {q : Program} {loose : List Str} {XP : (Str → Option Value) → Heap → Prop} {d : DefRec} {n : List Addr} {k : Nat} {p : Str} {B : PySem.W.Frag → List Bool} {fn : List He5.DefA} (hr : Room k callerA) (hn : l.most = some 63) (hdf : d.params.defaults = []) (hd : d.name = ("law" : Str))
    (F : ∀ (w : World) (mg : Str → Option Value) (fa : Addr) (h : Heap) (K : PySem.W.Frag), K.In h → h.Ns mainGlobals mg → mg "law" = some (.ref fa) → Says B fn K →
      ∃ fd : FuncData, (∀ (s : Shared) (u : Value), BindsTo s fd ⟨[u], []⟩ [(p, u)]) ∧ ∀ base : Heap, K.In base → base.Ns mainGlobals mg → FnOk l.prog w K mg base CX0 k fa fd [p] (spLaw K)) :
    PySem.W.WalkO q loose XP (hook n B fn).says l.row.toRowW d [] (fun f vs => PySem.call f vs) :=
  L2.walk_ofE (n := 63) (CX := CX0) hn (by decide) hdf hr (fun w mg fa h Y G hmg => by
    obtain ⟨K, X, c⟩ := Y
    rw [hd] at hmg
    obtain ⟨fd, hb, ok⟩ := F w mg fa h K X G hmg c
    exact ⟨K, fd, spLaw K, X, hb, fun H a ns hl _ hS => ⟨a, ns, rfl, hS, hl, fun _ => rfl⟩, ok⟩) fun _ _ _ _ z => z
end Hd

set_option Elab.async false
set_option linter.all false
set_option maxRecDepth 100000
set_option maxHeartbeats 2000000
section
open PySem L2 Ru
local macro_rules | `(tactic| walk_at "rd") => `(tactic| try simp only [tSeq, tAsg, gName, tVar, tC, tOp, rI, rI0, tRet, tDrop, tIfS, tTest, tB, tAndV, tOrV, tNotV, tAnd, tOr, tNot, tIf, tCall, tCons, tNil, tCB, tAug, rEq, rNe, tNext, tRetN, L2.start, List.map_cons, List.map_nil, List.length_cons, List.length_nil, List.replicate, List.cons_append, List.nil_append, List.append_nil, List.getElem?_cons_zero, List.getElem?_cons_succ, List.set_cons_zero, List.set_cons_succ, Option.some.injEq, V.int.injEq, V.str.injEq, V.bl.injEq, V.ref.injEq, List.cons.injEq, exists_eq_left, exists_eq_left', exists_eq_right, exists_and_left, exists_const, true_and, and_true, CDiv, CMul, Int.reduceLT, Int.reduceLE, Int.reducePow, Int.reduceNeg, true_or, or_true, wipe, gcons_eq, gnil_eq, cxOf_K, tSl, rSlS, tLst, tTup, rIsF, isBlV, isIntV, flat_s, flat_i, flat_b, flat_n, rIsB, rNotB, tPart, tNoPart, rIxS, reduceCtorEq, false_and, and_false, false_or, or_false, scal_ii, scal_bb, scal_ss, scal_sb, scal_bs, decide_true, decide_false, if_true, if_false, Bool.false_eq_true, Bool.not_true, Bool.not_false, ite_true, ite_false])

namespace My
theorem z_set : True := trivial
def top (i : Nat) : Stmt := PySem.Challenge.pw_rungworks_k42_always.main.body.getD i (.Pass ⟨0, 0, 0, 0⟩)
/-! ## names -/
def isLow (c : Nat) : Bool := decide (97 ≤ c ∧ c ≤ 122)
def isWord (z : Str) : Bool := z.cps.toList.all isLow && !z.cps.toList.isEmpty
abbrev sSIGNS : Str := "abcdefghijklmnopqrstuvwxyz"
def keptL : List Str := ["on", "off", "and", "or", "not", "set", "reset", "timer", "counter", "inputs", "outputs"]
def keptV : List V := keptL.map V.str
def isName (z : Str) : Bool := isWord z && decide (z.length ≤ 8) && !decide (z ∈ keptL)
theorem signs_cps : sSIGNS.cps.toList = (List.range 26).map (· + 97) := by decide +kernel
theorem mem_signs {c : Nat} : c ∈ sSIGNS.cps.toList ↔ isLow c = true := by
  rw [signs_cps, List.mem_map]
  unfold isLow
  rw [decide_eq_true_eq]
  constructor
  · rintro ⟨a, h, rfl⟩
    rw [List.mem_range] at h
    omega
  · intro h
    exact ⟨c - 97, List.mem_range.mpr (by omega), by omega⟩
theorem dec_signs {c : Nat} : decide (c ∈ sSIGNS.cps.toList) = isLow c := by
  rw [Bool.eq_iff_iff, decide_eq_true_eq]
  exact mem_signs
theorem inV_strs (z : Str) : ∀ l : List Str, inV (.str z) (l.map V.str) = decide (z ∈ l)
  | [] => by simp [inV]
  | x :: l => by
    have ih := inV_strs z l
    unfold inV at ih ⊢
    rw [List.map_cons, List.any_cons, ih]
    rw [Bool.eq_iff_iff]
    simp [eqV]
    constructor
    · rintro (h | h)
      · exact .inl h.symm
      · exact .inr h
    · rintro (h | h)
      · exact .inl h.symm
      · exact .inr h
theorem flat_strs : ∀ l : List Str, (l.map V.str).all flatV = true
  | [] => rfl
  | x :: l => by rw [List.map_cons, List.all_cons, flat_strs l]; rfl
theorem isWord_ne {z : Str} : (z ≠ ("" : Str)) ↔ z.cps.toList.isEmpty = false := by
  obtain ⟨a⟩ := z
  have e : ("" : Str) = ⟨#[]⟩ := by decide +kernel
  rw [e]
  cases h : a.toList with
  | nil =>
    have : a = #[] := by
      apply Array.ext'
      rw [h]
    subst this
    simp
  | cons x r =>
    refine ⟨fun _ => rfl, fun _ q => ?_⟩
    have q' : a = #[] := by injection q
    subst q'
    cases h
def spIsWord : Sp := fun vs H Q _ => ∃ z : Str, vs = [.str z] ∧ Q (.bl (isWord z)) H
def spIsName : Sp := fun vs H Q _ => ∃ z : Str, vs = [.str z] ∧ z.length ≤ sizeLine ∧ Q (.bl (isName z)) H
abbrev s_is_word : Stmt := top 13
theorem sc_is_word : FnScope ["text", "sign"] ["text"] (defScope s_is_word) := ⟨rfl, rfl, rfl, by decide +kernel, rfl, by decide +kernel, by decide +kernel⟩
abbrev s_is_name : Stmt := top 14
theorem sc_is_name : FnScope ["name"] ["name"] (defScope s_is_name) := ⟨rfl, rfl, rfl, by decide +kernel, rfl, by decide +kernel, by decide +kernel⟩
structure TNames (K : PySem.W.Frag) (mg : Str → Option Value) : Prop where
  d_is_word : DefAt K mg "is_word" s_is_word ["text"]
  d_is_name : DefAt K mg "is_name" s_is_name ["name"]
  g_SIGNS : GlobC mg "SIGNS" (.str sSIGNS)
  g_MOST_SIGNS : GlobC mg "MOST_SIGNS" (.int 8)
  g_KEPT : GlobT K mg "KEPT" keptV
  z_len : mg "len" = none
section
variable {P : Program} {w : World} {K : PySem.W.Frag} {mg : Str → Option Value} {base : Heap}
theorem ok_is_word (T : TNames K mg) : FnAt P w K mg base CX0 "is_word" 1 ["text"] spIsWord := by
  refine fnAt_ok T.d_is_word sc_is_word (fun vs H Q E h => ?_) (fun f cdv A outer s H vs Q E hr h => ?_)
  · obtain ⟨z, rfl, _⟩ := h; rfl
  · obtain ⟨z, rfl, k⟩ := h
    refine ⟨_, (pss_cons (ps_for PassesOwn.never rfl (pi_str (pv 0)) (pg_name (i := 1) sc_is_word.nd rfl (by first | exact Or.inl rfl | exact Or.inr rfl)) (pss_one (ps_if (pt_cmpR op_notIn_sign (pv 1) (pe_gc T.g_SIGNS) rfl) (pss_one (ps_ret pe_bl)) pss_nil)))
        (pss_one (ps_ret (pe_cmpR op_ne (pv 0) pe_str (nomark _))))), ?_⟩
    refine ⟨_, rfl, z, rfl, for_str (x := z) (fun i σ H' => ∃ v, σ = [some (.str z), v] ∧ H' = H ∧ (z.cps.toList.take i).all isLow = true) ⟨none, rfl, rfl, rfl⟩ ?_ ?_⟩
    · rintro i c σ H' hi ⟨v, rfl, rfl, hp⟩
      have hi' : z.cps.toList[i]? = some c := by simpa using hi
      walk_at "rd"
      refine ⟨c, rfl, ?_⟩
      rw [dec_signs]
      by_cases hc : isLow c = true
      · rw [hc]
        simp only [Bool.not_true, Bool.false_eq_true, if_false]
        rw [List.take_succ, hi', List.all_append, hp]
        simp [hc]
      · have hc' : isLow c = false := by simpa using hc
        rw [hc']
        refine iteT ?_
        have e : isWord z = false := by
          unfold isWord
          rw [Bool.and_eq_false_iff]
          left
          rw [List.all_eq_false]
          exact ⟨c, List.mem_of_getElem? hi', by simp [hc']⟩
        rw [e] at k
        exact k
    · rintro σ H' ⟨v, rfl, rfl, hp⟩
      walk_at "rd"
      have e : (!decide (z = "")) = isWord z := by
        unfold isWord
        have hp' : z.cps.toList.all isLow = true := by
          have : z.cps.toList.take z.cps.size = z.cps.toList := by
            rw [List.take_of_length_le]
            simp
          rw [this] at hp
          exact hp
        rw [hp', Bool.true_and, Bool.eq_iff_iff]
        simp only [Bool.not_eq_true', decide_eq_false_iff_not]
        exact isWord_ne
      rw [e]
      exact k
theorem ok_is_name (T : TNames K mg) : FnAt P w K mg base CX0 "is_name" 2 ["name"] spIsName := by
  have G_is_word : FnAt P w K mg base CX0 "is_word" 1 _ spIsWord := ok_is_word T
  refine fnAt_ok T.d_is_name sc_is_name (fun vs H Q E h => ?_) (fun f cdv A outer s H vs Q E hr h => ?_)
  · obtain ⟨z, rfl, _⟩ := h; rfl
  · obtain ⟨z, rfl, hz, k⟩ := h
    refine ⟨_, (pss_one (ps_ret (pe_and (pe_callF G_is_word hr pass0 (pa_cons (pv 0) pa_nil)) (pe_and (pe_cmpR op_le (pe_callB call_len_str (by rfl) T.z_len PySem.boot_len (pa_cons (pv 0) pa_nil)) (pe_gc T.g_MOST_SIGNS) (nomark _)) (pe_one (pe_cmp (pc_notInK T.g_KEPT (pv 0)))))))), ?_⟩
    walk_at "rd"
    refine ⟨z, rfl, ?_⟩
    unfold isName at k
    cases hw : isWord z with
    | false =>
      rw [hw] at k
      exact ⟨false, rfl, iteF k⟩
    | true =>
      rw [hw] at k
      refine ⟨true, rfl, iteT ⟨hz, ?_⟩⟩
      by_cases hl : z.length ≤ 8
      · have hl' : ((z.length : Nat) : Int) ≤ 8 := by omega
        rw [decide_eq_true hl']
        refine iteT ⟨flat_strs _, ?_⟩
        unfold keptV
        rw [inV_strs]
        rw [decide_eq_true hl] at k
        exact k
      · have hl' : ¬ ((z.length : Nat) : Int) ≤ 8 := by omega
        rw [decide_eq_false hl']
        rw [decide_eq_false hl] at k
        exact iteF k
end

/-! ## conditions: the plain side -/
inductive Cond where
  | fixed (b : Bool)
  | contact (n : Str)
  | not (c : Cond)
  | grp (s : Bool) (cs : List Cond)
mutual
def Cond.size : Cond → Nat
  | .fixed _ => 1
  | .contact _ => 1
  | .not c => c.size + 1
  | .grp _ cs => Cond.sizes cs + 1
def Cond.sizes : List Cond → Nat
  | [] => 0
  | c :: cs => c.size + Cond.sizes cs
end
mutual
def Cond.depth : Cond → Nat
  | .fixed _ => 1
  | .contact _ => 1
  | .not c => c.depth + 1
  | .grp _ cs => Cond.depths cs + 1
def Cond.depths : List Cond → Nat
  | [] => 0
  | c :: cs => max c.depth (Cond.depths cs)
end
def Cond.kids : Cond → List Cond
  | .fixed _ => []
  | .contact _ => []
  | .not c => [c]
  | .grp _ cs => cs
theorem Cond.depth_kids (c : Cond) : c.depth = Cond.depths c.kids + 1 := by
  cases c <;> simp [Cond.depth, Cond.kids, Cond.depths]
theorem Cond.size_kids (c : Cond) : c.size = Cond.sizes c.kids + 1 := by
  cases c <;> simp [Cond.size, Cond.kids, Cond.sizes]
theorem Cond.depth_pos (c : Cond) : 1 ≤ c.depth := by rw [Cond.depth_kids]; omega
theorem Cond.size_pos (c : Cond) : 1 ≤ c.size := by rw [Cond.size_kids]; omega
theorem Cond.depth_mem : ∀ {cs : List Cond} {c : Cond}, c ∈ cs → c.depth ≤ Cond.depths cs
  | x :: cs, c, h => by
    rw [Cond.depths]
    rcases List.mem_cons.mp h with rfl | h
    · omega
    · have := Cond.depth_mem h
      omega
theorem Cond.size_mem : ∀ {cs : List Cond} {c : Cond}, c ∈ cs → c.size ≤ Cond.sizes cs
  | x :: cs, c, h => by
    rw [Cond.sizes]
    rcases List.mem_cons.mp h with rfl | h
    · omega
    · have := Cond.size_mem h
      omega
theorem Cond.sizes_sum : ∀ cs : List Cond, Cond.sizes cs = (cs.map Cond.size).sum
  | [] => rfl
  | c :: cs => by rw [Cond.sizes, Cond.sizes_sum cs, List.map_cons, List.sum_cons]
theorem Cond.len_sizes : ∀ cs : List Cond, cs.length ≤ Cond.sizes cs
  | [] => Nat.le_refl _
  | c :: cs => by
    have h1 := Cond.len_sizes cs
    have h2 := c.size_pos
    rw [Cond.sizes, List.length_cons]
    omega
theorem Cond.depths_le : ∀ cs : List Cond, Cond.depths cs ≤ Cond.sizes cs
  | [] => Nat.le_refl _
  | c :: cs => by
    have ih := Cond.depths_le cs
    have h2 : c.depth ≤ c.size := by
      rw [Cond.depth_kids, Cond.size_kids]
      have := Cond.depths_le c.kids
      omega
    rw [Cond.depths, Cond.sizes]
    omega
termination_by cs => Cond.sizes cs
decreasing_by
  · have := c.size_pos
    simp [Cond.sizes]
    omega
  · have := Cond.size_kids c
    simp [Cond.sizes]
    omega
/-- a truth of each name -/
abbrev Im := Str → Bool
mutual
def Cond.holds (f : Im) : Cond → Bool
  | .fixed b => b
  | .contact n => f n
  | .not c => !c.holds f
  | .grp true cs => Cond.alls f cs
  | .grp false cs => Cond.anys f cs
def Cond.alls (f : Im) : List Cond → Bool
  | [] => true
  | c :: cs => c.holds f && Cond.alls f cs
def Cond.anys (f : Im) : List Cond → Bool
  | [] => false
  | c :: cs => c.holds f || Cond.anys f cs
end
theorem Cond.alls_map (f : Im) : ∀ cs : List Cond, Cond.alls f cs = (cs.map (Cond.holds f)).all id
  | [] => rfl
  | c :: cs => by rw [Cond.alls, Cond.alls_map f cs]; rfl
theorem Cond.anys_map (f : Im) : ∀ cs : List Cond, Cond.anys f cs = (cs.map (Cond.holds f)).any id
  | [] => rfl
  | c :: cs => by rw [Cond.anys, Cond.anys_map f cs]; rfl
/-- names put behind those that are there, each once -/
def addN (l : List Str) (n : Str) : List Str := if n ∈ l then l else l ++ [n]
mutual
def Cond.gather (l : List Str) : Cond → List Str
  | .fixed _ => l
  | .contact n => addN l n
  | .not c => c.gather l
  | .grp _ cs => Cond.gathers l cs
def Cond.gathers (l : List Str) : List Cond → List Str
  | [] => l
  | c :: cs => Cond.gathers (c.gather l) cs
end
def Cond.contacts (c : Cond) : List Str := c.gather []
theorem Cond.gathers_fold : ∀ (l : List Str) (cs : List Cond), Cond.gathers l cs = cs.foldl Cond.gather l
  | l, [] => rfl
  | l, c :: cs => by rw [Cond.gathers, Cond.gathers_fold (c.gather l) cs]; rfl
def word (s : Bool) : Str := if s then "and" else "or"
mutual
def Cond.told : Cond → PyData
  | .fixed b => .tuple [.str "fixed", .bool b]
  | .contact n => .tuple [.str "contact", .str n]
  | .not c => .tuple [.str "not", c.told]
  | .grp s cs => .tuple (.str (word s) :: Cond.tolds cs)
def Cond.tolds : List Cond → List PyData
  | [] => []
  | c :: cs => c.told :: Cond.tolds cs
end
theorem Cond.tolds_map : ∀ cs : List Cond, Cond.tolds cs = cs.map Cond.told
  | [] => rfl
  | c :: cs => by rw [Cond.tolds, Cond.tolds_map cs]; rfl
theorem sizes_app : ∀ a b : List Cond, Cond.sizes (a ++ b) = Cond.sizes a + Cond.sizes b
  | [], b => by simp [Cond.sizes]
  | x :: a, b => by rw [List.cons_append, Cond.sizes, Cond.sizes, sizes_app a b]; omega

--%% M1
/-! ## parts: the objects -/
/-- the five classes -/
structure Cl where
  fx : Addr
  ct : Addr
  tn : Addr
  sr : Addr
  br : Addr
def Cl.gr (cl : Cl) (s : Bool) : Addr := if s then cl.sr else cl.br
def Cl.has (cl : Cl) (C : Addr) : Prop := C = cl.fx ∨ C = cl.ct ∨ C = cl.tn ∨ C = cl.sr ∨ C = cl.br
theorem Cl.has_gr (cl : Cl) (s : Bool) : cl.has (cl.gr s) := by
  cases s <;> simp [Cl.gr, Cl.has]
mutual
/-- at v stands the condition c -/
inductive IsP (cl : Cl) (H : Hp) : V → Cond → Prop
  | fixed {a dx : Addr} {b : Bool} (h : H a = some (.ins cl.fx dx [("value", .bl b)])) : IsP cl H (.ref a) (.fixed b)
  | contact {a dx : Addr} {n : Str} (h : H a = some (.ins cl.ct dx [("name", .str n)])) : IsP cl H (.ref a) (.contact n)
  | not {a dx : Addr} {v : V} {c : Cond} (h : H a = some (.ins cl.tn dx [("part", v)])) (p : IsP cl H v c) : IsP cl H (.ref a) (.not c)
  | grp {a dx t : Addr} {vs : List V} {s : Bool} {cs : List Cond} (h : H a = some (.ins (cl.gr s) dx [("parts", .ref t)])) (ht : H t = some (.tup vs)) (p : IsPs cl H vs cs) : IsP cl H (.ref a) (.grp s cs)
inductive IsPs (cl : Cl) (H : Hp) : List V → List Cond → Prop
  | nil : IsPs cl H [] []
  | cons {v : V} {vs : List V} {c : Cond} {cs : List Cond} (h : IsP cl H v c) (t : IsPs cl H vs cs) : IsPs cl H (v :: vs) (c :: cs)
end
section
variable {cl : Cl} {H H' : Hp} {v : V} {vs : List V} {c : Cond} {cs : List Cond}
mutual
theorem IsP.mono (k : Imm cl.has H H') : ∀ {v : V} {c : Cond}, IsP cl H v c → IsP cl H' v c
  | _, _, .fixed h => .fixed (k _ _ h (.inl rfl))
  | _, _, .contact h => .contact (k _ _ h (.inr (.inl rfl)))
  | _, _, .not h p => .not (k _ _ h (.inr (.inr (.inl rfl)))) (p.mono k)
  | _, _, .grp h ht p => .grp (k _ _ h (cl.has_gr _)) (k _ _ ht trivial) (p.mono k)
theorem IsPs.mono (k : Imm cl.has H H') : ∀ {vs : List V} {cs : List Cond}, IsPs cl H vs cs → IsPs cl H' vs cs
  | _, _, .nil => .nil
  | _, _, .cons p t => .cons (p.mono k) (t.mono k)
end
theorem IsPs.length : ∀ {vs : List V} {cs : List Cond}, IsPs cl H vs cs → vs.length = cs.length
  | _, _, .nil => rfl
  | _, _, .cons _ t => by rw [List.length_cons, List.length_cons, IsPs.length t]
theorem IsPs.at : ∀ {vs : List V} {cs : List Cond} {i : Nat} {v : V}, IsPs cl H vs cs → vs[i]? = some v → ∃ c, cs[i]? = some c ∧ IsP cl H v c
  | _, _, i, v, .nil, h => by simp at h
  | _, _, 0, v, .cons p t, h => by
    simp at h
    subst h
    exact ⟨_, rfl, p⟩
  | _, _, i + 1, v, .cons p t, h => by
    obtain ⟨c, h1, h2⟩ := IsPs.at (i := i) (v := v) t (by simpa using h)
    exact ⟨c, by simpa using h1, h2⟩
theorem IsPs.snoc : ∀ {vs : List V} {cs : List Cond} {v : V} {c : Cond}, IsPs cl H vs cs → IsP cl H v c → IsPs cl H (vs ++ [v]) (cs ++ [c])
  | _, _, _, _, .nil, p => .cons p .nil
  | _, _, _, _, .cons q t, p => .cons q (t.snoc p)
/-- the receiver: an instance of one of the five -/
theorem IsP.obj (p : IsP cl H v c) : ∃ a C dx f x, v = .ref a ∧ H a = some (.ins C dx [(f, x)]) ∧ cl.has C ∧ (f = "value" ∨ f = "name" ∨ f = "part" ∨ f = "parts") := by
  cases p with
  | fixed h => exact ⟨_, _, _, _, _, rfl, h, .inl rfl, .inl rfl⟩
  | contact h => exact ⟨_, _, _, _, _, rfl, h, .inr (.inl rfl), .inr (.inl rfl)⟩
  | not h _ => exact ⟨_, _, _, _, _, rfl, h, .inr (.inr (.inl rfl)), .inr (.inr (.inl rfl))⟩
  | grp h _ _ => exact ⟨_, _, _, _, _, rfl, h, cl.has_gr _, .inr (.inr (.inr rfl))⟩
end
/-- no method is called like a field -/
def notField (m : Str) : Bool := !(m == "value") && !(m == "name") && !(m == "part") && !(m == "parts")
theorem lookup_field {m f : Str} {x : V} (hm : notField m = true) (hf : f = "value" ∨ f = "name" ∨ f = "part" ∨ f = "parts") : List.lookup m [(f, x)] = none := by
  unfold notField at hm
  simp only [Bool.and_eq_true, Bool.not_eq_true'] at hm
  obtain ⟨⟨⟨h1, h2⟩, h3⟩, h4⟩ := hm
  rcases hf with rfl | rfl | rfl | rfl <;> exact lk1 (by assumption)
/-- what the call of a method of a part asks -/
theorem meth_of {cl : Cl} {H : Hp} {v : V} {c : Cond} {m : Str} (hm : notField m = true) (p : IsP cl H v c) : ∃ a C dx fs, v = .ref a ∧ H a = some (.ins C dx fs) ∧ cl.has C ∧ fs.lookup m = none := by
  obtain ⟨a, C, dx, f, x, rfl, h, hc, hf⟩ := p.obj
  exact ⟨a, C, dx, _, rfl, h, hc, lookup_field hm hf⟩
theorem look_of {cl : Cl} {H : Hp} {a C dx : Addr} {fs : List (Str × V)} {c : Cond} {m : Str} (hm : notField m = true) (ha : H a = some (.ins C dx fs)) (p : IsP cl H (.ref a) c) : fs.lookup m = none := by
  obtain ⟨a', C', dx', f, x, e, h, hc, hf⟩ := p.obj
  injection e with e
  subst e
  rw [ha] at h
  cases h
  exact lookup_field hm hf

abbrev s_Part_inner : Stmt := inClass (top 18) 0
theorem sc_Part_inner : FnScope ["self"] ["self"] (defScope s_Part_inner) := ⟨rfl, rfl, rfl, by decide +kernel, rfl, by decide +kernel, by decide +kernel⟩
abbrev s_Turned_inner : Stmt := inClass (top 21) 1
theorem sc_Turned_inner : FnScope ["self"] ["self"] (defScope s_Turned_inner) := ⟨rfl, rfl, rfl, by decide +kernel, rfl, by decide +kernel, by decide +kernel⟩
abbrev s_Group_inner : Stmt := inClass (top 22) 1
theorem sc_Group_inner : FnScope ["self"] ["self"] (defScope s_Group_inner) := ⟨rfl, rfl, rfl, by decide +kernel, rfl, by decide +kernel, by decide +kernel⟩
abbrev s_Part_size : Stmt := inClass (top 18) 4
theorem sc_Part_size : FnScope ["self", "part"] ["self"] (defScope s_Part_size) := ⟨rfl, rfl, rfl, by decide +kernel, rfl, by decide +kernel, by decide +kernel⟩
abbrev s_Part_depth : Stmt := inClass (top 18) 5
theorem sc_Part_depth : FnScope ["self", "part"] ["self"] (defScope s_Part_depth) := ⟨rfl, rfl, rfl, by decide +kernel, rfl, by decide +kernel, by decide +kernel⟩
abbrev s_Part_bounded : Stmt := inClass (top 18) 8
theorem sc_Part_bounded : FnScope ["self"] ["self"] (defScope s_Part_bounded) := ⟨rfl, rfl, rfl, by decide +kernel, rfl, by decide +kernel, by decide +kernel⟩
structure TParts (K : PySem.W.Frag) (mg : Str → Option Value) (cl : Cl) : Prop where
  c_Fixed : ClsAt K mg "Fixed" cl.fx
  c_Contact : ClsAt K mg "Contact" cl.ct
  c_Turned : ClsAt K mg "Turned" cl.tn
  c_Series : ClsAt K mg "Series" cl.sr
  c_Branch : ClsAt K mg "Branch" cl.br
  nd : [cl.fx, cl.ct, cl.tn, cl.sr, cl.br].Nodup
  nv_fx : NoAttr K cl.fx "value"
  nn_ct : NoAttr K cl.ct "name"
  np_tn : NoAttr K cl.tn "part"
  np_sr : NoAttr K cl.sr "parts"
  np_br : NoAttr K cl.br "parts"
  m_inner_fx : MethAt K cl.fx "inner" "Part.inner" s_Part_inner ["self"]
  m_inner_ct : MethAt K cl.ct "inner" "Part.inner" s_Part_inner ["self"]
  m_inner_tn : MethAt K cl.tn "inner" "Turned.inner" s_Turned_inner ["self"]
  m_inner_sr : MethAt K cl.sr "inner" "Group.inner" s_Group_inner ["self"]
  m_inner_br : MethAt K cl.br "inner" "Group.inner" s_Group_inner ["self"]
  m_size_fx : MethAt K cl.fx "size" "Part.size" s_Part_size ["self"]
  m_size_ct : MethAt K cl.ct "size" "Part.size" s_Part_size ["self"]
  m_size_tn : MethAt K cl.tn "size" "Part.size" s_Part_size ["self"]
  m_size_sr : MethAt K cl.sr "size" "Part.size" s_Part_size ["self"]
  m_size_br : MethAt K cl.br "size" "Part.size" s_Part_size ["self"]
  m_depth_fx : MethAt K cl.fx "depth" "Part.depth" s_Part_depth ["self"]
  m_depth_ct : MethAt K cl.ct "depth" "Part.depth" s_Part_depth ["self"]
  m_depth_tn : MethAt K cl.tn "depth" "Part.depth" s_Part_depth ["self"]
  m_depth_sr : MethAt K cl.sr "depth" "Part.depth" s_Part_depth ["self"]
  m_depth_br : MethAt K cl.br "depth" "Part.depth" s_Part_depth ["self"]
  m_bounded_tn : MethAt K cl.tn "bounded" "Part.bounded" s_Part_bounded ["self"]
  m_bounded_sr : MethAt K cl.sr "bounded" "Part.bounded" s_Part_bounded ["self"]
  m_bounded_br : MethAt K cl.br "bounded" "Part.bounded" s_Part_bounded ["self"]
  z_sum : mg "sum" = none
  z_max : mg "max" = none
  z_tuple : mg "tuple" = none
  g_MOST_SIZE : GlobC mg "MOST_SIZE" (.int 60)
  g_MOST_DEEP : GlobC mg "MOST_DEEP" (.int 20)
section
variable {P : Program} {w : World} {K : PySem.W.Frag} {mg : Str → Option Value} {base : Heap} {cl : Cl}
theorem TParts.gr (T : TParts K mg cl) (s : Bool) : ∃ x, ClsAt K mg x (cl.gr s) := by
  cases s
  · exact ⟨_, T.c_Branch⟩
  · exact ⟨_, T.c_Series⟩
theorem TParts.np (T : TParts K mg cl) (s : Bool) : NoAttr K (cl.gr s) "parts" := by
  cases s
  · exact T.np_br
  · exact T.np_sr
theorem TParts.cls (T : TParts K mg cl) {C : Addr} (h : cl.has C) : Cls K C := by
  rcases h with rfl | rfl | rfl | rfl | rfl
  · exact T.c_Fixed.cl
  · exact T.c_Contact.cl
  · exact T.c_Turned.cl
  · exact T.c_Series.cl
  · exact T.c_Branch.cl
/-- by the class, what stands there -/
theorem inv_fx (nd : [cl.fx, cl.ct, cl.tn, cl.sr, cl.br].Nodup) {H : Hp} {a dx : Addr} {fs : List (Str × V)} {c : Cond} (h : H a = some (.ins cl.fx dx fs)) (p : IsP cl H (.ref a) c) : ∃ b, c = .fixed b ∧ fs = ([("value", .bl b)] : List (Str × V)) := by
  simp only [List.nodup_cons, List.mem_cons, List.not_mem_nil, or_false, not_or] at nd
  cases p with
  | fixed q => rw [q] at h; cases h; exact ⟨_, rfl, rfl⟩
  | contact q => rw [q] at h; injection h with h; injection h with h; exact absurd h.symm nd.1.1
  | not q _ => rw [q] at h; injection h with h; injection h with h; exact absurd h.symm nd.1.2.1
  | @grp _ _ _ _ s _ q _ _ =>
    rw [q] at h; injection h with h; injection h with h
    cases s
    · exact absurd h.symm nd.1.2.2.2
    · exact absurd h.symm nd.1.2.2.1
theorem inv_ct (nd : [cl.fx, cl.ct, cl.tn, cl.sr, cl.br].Nodup) {H : Hp} {a dx : Addr} {fs : List (Str × V)} {c : Cond} (h : H a = some (.ins cl.ct dx fs)) (p : IsP cl H (.ref a) c) : ∃ n, c = .contact n ∧ fs = ([("name", .str n)] : List (Str × V)) := by
  simp only [List.nodup_cons, List.mem_cons, List.not_mem_nil, or_false, not_or] at nd
  cases p with
  | fixed q => rw [q] at h; injection h with h; injection h with h; exact absurd h nd.1.1
  | contact q => rw [q] at h; cases h; exact ⟨_, rfl, rfl⟩
  | not q _ => rw [q] at h; injection h with h; injection h with h; exact absurd h.symm nd.2.1.1
  | @grp _ _ _ _ s _ q _ _ =>
    rw [q] at h; injection h with h; injection h with h
    cases s
    · exact absurd h.symm nd.2.1.2.2
    · exact absurd h.symm nd.2.1.2.1
theorem inv_tn (nd : [cl.fx, cl.ct, cl.tn, cl.sr, cl.br].Nodup) {H : Hp} {a dx : Addr} {fs : List (Str × V)} {c : Cond} (h : H a = some (.ins cl.tn dx fs)) (p : IsP cl H (.ref a) c) : ∃ v c', c = .not c' ∧ fs = ([("part", v)] : List (Str × V)) ∧ IsP cl H v c' := by
  simp only [List.nodup_cons, List.mem_cons, List.not_mem_nil, or_false, not_or] at nd
  cases p with
  | fixed q => rw [q] at h; injection h with h; injection h with h; exact absurd h nd.1.2.1
  | contact q => rw [q] at h; injection h with h; injection h with h; exact absurd h nd.2.1.1
  | not q p => rw [q] at h; cases h; exact ⟨_, _, rfl, rfl, p⟩
  | @grp _ _ _ _ s _ q _ _ =>
    rw [q] at h; injection h with h; injection h with h
    cases s
    · exact absurd h.symm nd.2.2.1.2
    · exact absurd h.symm nd.2.2.1.1
theorem inv_gr (nd : [cl.fx, cl.ct, cl.tn, cl.sr, cl.br].Nodup) {H : Hp} {a dx C : Addr} {fs : List (Str × V)} {c : Cond} {s : Bool} (hC : C = cl.gr s) (h : H a = some (.ins C dx fs)) (p : IsP cl H (.ref a) c) :
    ∃ t vs cs, c = .grp s cs ∧ fs = ([("parts", .ref t)] : List (Str × V)) ∧ H t = some (.tup vs) ∧ IsPs cl H vs cs := by
  subst hC
  simp only [List.nodup_cons, List.mem_cons, List.not_mem_nil, or_false, not_or] at nd
  cases p with
  | fixed q =>
    rw [q] at h; injection h with h; injection h with h
    cases s
    · exact absurd h nd.1.2.2.2
    · exact absurd h nd.1.2.2.1
  | contact q =>
    rw [q] at h; injection h with h; injection h with h
    cases s
    · exact absurd h nd.2.1.2.2
    · exact absurd h nd.2.1.2.1
  | not q _ =>
    rw [q] at h; injection h with h; injection h with h
    cases s
    · exact absurd h nd.2.2.1.2
    · exact absurd h nd.2.2.1.1
  | @grp _ _ t vs s' cs q ht p =>
    rw [q] at h; injection h with h; injection h with h1 h2 h3
    have e : s' = s := by
      cases s <;> cases s'
      · rfl
      · exact absurd h1 nd.2.2.2.1
      · exact absurd h1.symm nd.2.2.2.1
      · rfl
    subst e
    exact ⟨t, vs, cs, rfl, h3.symm, ht, p⟩
theorem sum_cast : ∀ l : List Cond, (l.map fun c => (c.size : Int)).sum = (((l.map Cond.size).sum : Nat) : Int)
  | [] => rfl
  | c :: l => by
    rw [List.map_cons, List.sum_cons, sum_cast l, List.map_cons, List.sum_cons]
    omega
/-! ### inner -/
def spInner (cl : Cl) (C : Addr) : Sp := fun vs H Q _ => ∃ (a dx : Addr) (fs : List (Str × V)) (c : Cond), vs = [.ref a] ∧ H a = some (.ins C dx fs) ∧ IsP cl H (.ref a) c ∧
  ∀ (H' : Hp) (t : Addr) (ws : List V), Same H H' → H' t = some (.tup ws) → IsPs cl H' ws c.kids → Q (.ref t) H'
theorem ok_inner0 (T : TParts K mg cl) {C : Addr} (hC : C = cl.fx ∨ C = cl.ct) (D : MethAt K C "inner" "Part.inner" s_Part_inner ["self"]) :
    ∃ f fd, Cls K C ∧ Meth K C "inner" f ∧ Binds K fd ["self"] [] ∧ FnOk P w K mg base CX0 1 f fd ["self"] (spInner cl C) := by
  refine methAt_ok (T.cls (by rcases hC with rfl | rfl; exact .inl rfl; exact .inr (.inl rfl))) D sc_Part_inner (fun vs H Q E h => ?_) (fun f cdv A outer s H vs Q E hr h => ?_)
  · obtain ⟨a, dx, fs, c, rfl, _⟩ := h; rfl
  · obtain ⟨a, dx, fs, c, rfl, ha, p, k⟩ := h
    refine ⟨_, (pss_one (ps_ret (pe_tup pa_nil))), ?_⟩
    refine ⟨Nat.zero_le _, fun q nq => k _ q [] (Same.new nq) upd_same ?_⟩
    have e : c.kids = [] := by
      rcases hC with rfl | rfl
      · obtain ⟨b, rfl, _⟩ := inv_fx T.nd ha p; rfl
      · obtain ⟨b, rfl, _⟩ := inv_ct T.nd ha p; rfl
    rw [e]
    exact .nil
theorem ok_inner1 (T : TParts K mg cl) (D : MethAt K cl.tn "inner" "Turned.inner" s_Turned_inner ["self"]) :
    ∃ f fd, Cls K cl.tn ∧ Meth K cl.tn "inner" f ∧ Binds K fd ["self"] [] ∧ FnOk P w K mg base CX0 1 f fd ["self"] (spInner cl cl.tn) := by
  refine methAt_ok T.c_Turned.cl D sc_Turned_inner (fun vs H Q E h => ?_) (fun f cdv A outer s H vs Q E hr h => ?_)
  · obtain ⟨a, dx, fs, c, rfl, _⟩ := h; rfl
  · obtain ⟨a, dx, fs, c, rfl, ha, p, k⟩ := h
    obtain ⟨v, c', rfl, rfl, p'⟩ := inv_tn T.nd ha p
    refine ⟨_, (pss_one (ps_ret (pe_tup (pa_cons (pe_fld (pv 0) rfl) pa_nil)))), ?_⟩
    refine ⟨_, rfl, a, _, dx, _, v, rfl, ha, T.c_Turned.cl, T.np_tn, lk1s, line_ge (by simp), fun q nq => ?_⟩
    exact k _ q [v] (Same.new nq) upd_same (.cons (p'.mono (Imm.new nq)) .nil)
theorem ok_inner2 (T : TParts K mg cl) (s : Bool) (D : MethAt K (cl.gr s) "inner" "Group.inner" s_Group_inner ["self"]) :
    ∃ f fd, Cls K (cl.gr s) ∧ Meth K (cl.gr s) "inner" f ∧ Binds K fd ["self"] [] ∧ FnOk P w K mg base CX0 1 f fd ["self"] (spInner cl (cl.gr s)) := by
  refine methAt_ok (T.cls (cl.has_gr s)) D sc_Group_inner (fun vs H Q E h => ?_) (fun f cdv A outer st H vs Q E hr h => ?_)
  · obtain ⟨a, dx, fs, c, rfl, _⟩ := h; rfl
  · obtain ⟨a, dx, fs, c, rfl, ha, p, k⟩ := h
    obtain ⟨t, ws, cs, rfl, rfl, ht, p'⟩ := inv_gr T.nd rfl ha p
    refine ⟨_, (pss_one (ps_ret (pe_fld (pv 0) rfl))), ?_⟩
    refine ⟨_, rfl, a, _, dx, _, _, rfl, ha, T.cls (cl.has_gr s), T.np s, lk1s, ?_⟩
    exact k H t ws (Same.refl _) ht p'
theorem disp_inner (T : TParts K mg cl) : DispAt P w K mg base CX0 cl.has "inner" 1 ["self"] (spInner cl) := by
  refine ⟨fun C hC => ?_⟩
  rcases hC with rfl | rfl | rfl | rfl | rfl
  · exact ok_inner0 T (.inl rfl) T.m_inner_fx
  · exact ok_inner0 T (.inr rfl) T.m_inner_ct
  · exact ok_inner1 T T.m_inner_tn
  · exact ok_inner2 T true T.m_inner_sr
  · exact ok_inner2 T false T.m_inner_br
/-! ### size -/
def spSize (cl : Cl) (n : Nat) (C : Addr) : Sp := fun vs H Q _ => ∃ (a dx : Addr) (fs : List (Str × V)) (c : Cond), vs = [.ref a] ∧ H a = some (.ins C dx fs) ∧ IsP cl H (.ref a) c ∧ c.depth ≤ n ∧ c.size ≤ 1000 ∧
  ∀ (H' : Hp), Same H H' → Q (.int c.size) H'
theorem ok_size (T : TParts K mg cl) {n k : Nat} (G_size : DispAt P w K mg base CX0 cl.has "size" k ["self"] (spSize cl n)) (hk : 1 ≤ k) {C : Addr} (hC : cl.has C) (D : MethAt K C "size" "Part.size" s_Part_size ["self"]) :
    ∃ f fd, Cls K C ∧ Meth K C "size" f ∧ Binds K fd ["self"] [] ∧ FnOk P w K mg base CX0 (k + 1) f fd ["self"] (spSize cl (n + 1) C) := by
  have G_inner : DispAt P w K mg base CX0 cl.has "inner" 1 ["self"] (spInner cl) := disp_inner T
  refine methAt_ok (T.cls hC) D sc_Part_size (fun vs H Q E h => ?_) (fun f cdv A outer s H vs Q E hr h => ?_)
  · obtain ⟨a, dx, fs, c, rfl, _⟩ := h; rfl
  · obtain ⟨a, dx, fs, c, rfl, ha, p, hd, hz, q⟩ := h
    refine ⟨_, (pss_one (ps_ret (pe_op op_add pe_int (pe_callB (cr_sum rfl) (by rfl) T.z_sum (by decide +kernel) (pa_cons (pe_lc (own := [("part", 1)]) (g := gName 1) (tt := tYes) rfl sc_Part_size.nd (pi_tup (pe_methD0 G_inner hr pass0 (pv 0) hk)) (blkOk_by (own := [("part", 1)]) (N := ["self", "part"]) (sc := defScope s_Part_size) (by decide +kernel)) (fun _ _ _ _ _ => pg_name (i := 1) sc_Part_size.nd rfl (Or.inl rfl)) (fun _ _ _ _ _ => pts_nil) (fun _ _ _ _ _ => (pe_methD0 G_size hr pass0 (pv 1) (Nat.le_refl _)))) pa_nil))))), ?_⟩
    refine ⟨_, rfl, a, C, dx, fs, rfl, ha, hC, look_of (by decide +kernel) ha p, a, dx, fs, c, rfl, ha, p, fun H1 t ws s1 ht ps => ?_⟩
    have hlen := ps.length
    have hz2 : c.kids.length ≤ 1000 := by
      have h1 := Cond.len_sizes c.kids
      have h2 := c.size_kids
      omega
    refine ⟨t, rfl, ⟨_, SqT.of ht⟩, fun D nD => lc_tup (K := K) (a := t) (xs := ws) (fun i H' => Same H1 H' ∧ H' D = some (.lst ((c.kids.map fun c => V.int c.size).take i)))
      ⟨Same.new nD, upd_same⟩ (fun i H' _ q => SqT.of (q.1 _ _ ht)) ?_ ?_⟩
    · rintro i y H2 hy ⟨q1, q2⟩
      obtain ⟨c', hc', p'⟩ := (ps.mono (Same.imm q1)).at hy
      obtain ⟨a', C', dx', fs', rfl, ha', hC', hl'⟩ := meth_of (m := "size") (by decide +kernel) p'
      have hm := List.mem_of_getElem? hc'
      have h1 := Cond.depth_mem hm
      have h2 := Cond.size_mem hm
      have h3 := c.depth_kids
      have h4 := c.size_kids
      refine ⟨rfl, _, rfl, a', C', dx', fs', rfl, ha', hC', hl', a', dx', fs', c', rfl, ha', p', by omega, by omega, fun H3 s3 => ?_⟩
      exact lc_push (q1.trans s3) nD (s3 _ _ q2) (by rw [List.getElem?_map, hc']; rfl) (by rw [List.length_map]; omega)
    · rintro H2 ⟨q1, q2⟩
      rw [hlen, List.take_of_length_le (by simp)] at q2
      refine ⟨D, c.kids.map fun c => (c.size : Int), rfl, SqL.of ?_, _, _, rfl, rfl, ?_⟩
      · rw [q2, List.map_map]
        rfl
      · have e : (1 : Int) + (c.kids.map fun c => (c.size : Int)).sum = (c.size : Int) := by
          rw [sum_cast, Cond.size_kids, Cond.sizes_sum]
          omega
        show Q (V.int (1 + _)) _
        rw [e]
        exact q _ (s1.trans q1)
theorem disp_size (T : TParts K mg cl) : ∀ n : Nat, DispAt P w K mg base CX0 cl.has "size" (n + 1) ["self"] (spSize cl n)
  | 0 => by
    refine ⟨fun C hC => ?_⟩
    obtain ⟨f, fd, h1, h2, h3, h4⟩ := (disp_inner (P := P) (w := w) (base := base) T).ex C hC
    have D : MethAt K C "size" "Part.size" s_Part_size ["self"] := by
      rcases hC with rfl | rfl | rfl | rfl | rfl
      · exact T.m_size_fx
      · exact T.m_size_ct
      · exact T.m_size_tn
      · exact T.m_size_sr
      · exact T.m_size_br
    refine methAt_ok (T.cls hC) D sc_Part_size (fun vs H Q E h => ?_) (fun f cdv A outer s H vs Q E hr h => ?_)
    · obtain ⟨a, dx, fs, c, rfl, _⟩ := h; rfl
    · obtain ⟨a, dx, fs, c, rfl, ha, p, hd, _⟩ := h
      exact absurd c.depth_pos (by omega)
  | n + 1 => by
    refine ⟨fun C hC => ?_⟩
    have D : MethAt K C "size" "Part.size" s_Part_size ["self"] := by
      rcases hC with rfl | rfl | rfl | rfl | rfl
      · exact T.m_size_fx
      · exact T.m_size_ct
      · exact T.m_size_tn
      · exact T.m_size_sr
      · exact T.m_size_br
    exact ok_size T (disp_size T n) (by omega) hC D
/-! ### depth -/
def spDepth (cl : Cl) (n : Nat) (C : Addr) : Sp := fun vs H Q _ => ∃ (a dx : Addr) (fs : List (Str × V)) (c : Cond), vs = [.ref a] ∧ H a = some (.ins C dx fs) ∧ IsP cl H (.ref a) c ∧ c.depth ≤ n ∧ c.size ≤ 1000 ∧
  ∀ (H' : Hp), Same H H' → Q (.int c.depth) H'
theorem max_depths : ∀ (cs : List Cond) (m : Int), m ∈ (0 : Int) :: cs.map (fun c => (c.depth : Int)) → (∀ y, y ∈ (0 : Int) :: cs.map (fun c => (c.depth : Int)) → y ≤ m) → m = (Cond.depths cs : Int) := by
  have le : ∀ (cs : List Cond), ∃ y, y ∈ (0 : Int) :: cs.map (fun c => (c.depth : Int)) ∧ (Cond.depths cs : Int) ≤ y := by
    intro cs
    induction cs with
    | nil => exact ⟨0, List.mem_cons_self, by simp [Cond.depths]⟩
    | cons c cs ih =>
      obtain ⟨y, hy, hl⟩ := ih
      by_cases h : Cond.depths cs ≤ c.depth
      · exact ⟨c.depth, by simp, by rw [Cond.depths]; omega⟩
      · refine ⟨y, ?_, by rw [Cond.depths]; omega⟩
        rcases List.mem_cons.mp hy with rfl | hy
        · exact List.mem_cons_self
        · exact List.mem_cons_of_mem _ (List.mem_cons_of_mem _ hy)
  intro cs m hm hle
  obtain ⟨y, hy, hl⟩ := le cs
  have h1 := hle y hy
  have h2 : m ≤ (Cond.depths cs : Int) := by
    rcases List.mem_cons.mp hm with rfl | hm
    · omega
    · obtain ⟨c, hc, rfl⟩ := List.mem_map.mp hm
      have := Cond.depth_mem hc
      omega
  omega
theorem ok_depth (T : TParts K mg cl) {n k : Nat} (G_depth : DispAt P w K mg base CX0 cl.has "depth" k ["self"] (spDepth cl n)) (hk : 1 ≤ k) {C : Addr} (hC : cl.has C) (D : MethAt K C "depth" "Part.depth" s_Part_depth ["self"]) :
    ∃ f fd, Cls K C ∧ Meth K C "depth" f ∧ Binds K fd ["self"] [] ∧ FnOk P w K mg base CX0 (k + 1) f fd ["self"] (spDepth cl (n + 1) C) := by
  have G_inner : DispAt P w K mg base CX0 cl.has "inner" 1 ["self"] (spInner cl) := disp_inner T
  refine methAt_ok (T.cls hC) D sc_Part_depth (fun vs H Q E h => ?_) (fun f cdv A outer s H vs Q E hr h => ?_)
  · obtain ⟨a, dx, fs, c, rfl, _⟩ := h; rfl
  · obtain ⟨a, dx, fs, c, rfl, ha, p, hd, hz, q⟩ := h
    refine ⟨_, (pss_one (ps_ret (pe_op op_add pe_int (pe_callB (cr_max rfl) (by rfl) T.z_max (by decide +kernel) (pa_cons (pe_op op_cat (pe_lst (pa_cons pe_int pa_nil)) (pe_lc (own := [("part", 1)]) (g := gName 1) (tt := tYes) rfl sc_Part_depth.nd (pi_tup (pe_methD0 G_inner hr pass0 (pv 0) hk)) (blkOk_by (own := [("part", 1)]) (N := ["self", "part"]) (sc := defScope s_Part_depth) (by decide +kernel)) (fun _ _ _ _ _ => pg_name (i := 1) sc_Part_depth.nd rfl (Or.inl rfl)) (fun _ _ _ _ _ => pts_nil) (fun _ _ _ _ _ => (pe_methD0 G_depth hr pass0 (pv 1) (Nat.le_refl _))))) pa_nil))))), ?_⟩
    have hz2 : c.kids.length ≤ 1000 := by
      have h1 := Cond.len_sizes c.kids
      have h2 := c.size_kids
      omega
    refine ⟨line_ge (by decide), fun z nz => ?_⟩
    have ha0 : upd H z (.lst [.int 0]) a = some (.ins C dx fs) := Same.new nz _ _ ha
    have p0 : IsP cl (upd H z (.lst [.int 0])) (.ref a) c := p.mono (Imm.new nz)
    refine ⟨_, rfl, a, C, dx, fs, rfl, ha0, hC, look_of (by decide +kernel) ha p, a, dx, fs, c, rfl, ha0, p0, fun H1 t ws s1 ht ps => ?_⟩
    have hlen := ps.length
    refine ⟨t, rfl, ⟨_, SqT.of ht⟩, fun D nD => lc_tup (K := K) (a := t) (xs := ws) (fun i H' => Same H1 H' ∧ H' D = some (.lst ((c.kids.map fun c => V.int c.depth).take i)))
      ⟨Same.new nD, upd_same⟩ (fun i H' _ q => SqT.of (q.1 _ _ ht)) ?_ ?_⟩
    · rintro i y H2 hy ⟨q1, q2⟩
      obtain ⟨c', hc', p'⟩ := (ps.mono (Same.imm q1)).at hy
      obtain ⟨a', C', dx', fs', rfl, ha', hC', hl'⟩ := meth_of (m := "depth") (by decide +kernel) p'
      have hm := List.mem_of_getElem? hc'
      have h1 := Cond.depth_mem hm
      have h2 := Cond.size_mem hm
      have h3 := c.depth_kids
      have h4 := c.size_kids
      refine ⟨rfl, _, rfl, a', C', dx', fs', rfl, ha', hC', hl', a', dx', fs', c', rfl, ha', p', by omega, by omega, fun H3 s3 => ?_⟩
      exact lc_push (q1.trans s3) nD (s3 _ _ q2) (by rw [List.getElem?_map, hc']; rfl) (by rw [List.length_map]; omega)
    · rintro H2 ⟨q1, q2⟩
      rw [hlen, List.take_of_length_le (by simp)] at q2
      refine ⟨z, D, [.int 0], _, rfl, rfl, q1 _ _ (s1 _ _ upd_same), q2, line_ge (by simp; omega), fun y ny => ?_⟩
      refine ⟨y, (0 : Int) :: c.kids.map (fun c => (c.depth : Int)), rfl, SqL.of ?_, by simp, fun m hm hle => ?_⟩
      · rw [upd_same]
        simp [List.map_map, Function.comp_def]
      · have e := max_depths c.kids m hm hle
        refine ⟨_, _, rfl, rfl, ?_⟩
        have e2 : (1 : Int) + m = (c.depth : Int) := by
          rw [e, Cond.depth_kids]
          omega
        show Q (V.int (1 + m)) _
        rw [e2]
        exact q _ (((Same.new nz).trans (s1.trans q1)).trans (Same.new ny))
theorem disp_depth (T : TParts K mg cl) : ∀ n : Nat, DispAt P w K mg base CX0 cl.has "depth" (n + 1) ["self"] (spDepth cl n)
  | 0 => by
    refine ⟨fun C hC => ?_⟩
    have D : MethAt K C "depth" "Part.depth" s_Part_depth ["self"] := by
      rcases hC with rfl | rfl | rfl | rfl | rfl
      · exact T.m_depth_fx
      · exact T.m_depth_ct
      · exact T.m_depth_tn
      · exact T.m_depth_sr
      · exact T.m_depth_br
    refine methAt_ok (T.cls hC) D sc_Part_depth (fun vs H Q E h => ?_) (fun f cdv A outer s H vs Q E hr h => ?_)
    · obtain ⟨a, dx, fs, c, rfl, _⟩ := h; rfl
    · obtain ⟨a, dx, fs, c, rfl, ha, p, hd, _⟩ := h
      exact absurd c.depth_pos (by omega)
  | n + 1 => by
    refine ⟨fun C hC => ?_⟩
    have D : MethAt K C "depth" "Part.depth" s_Part_depth ["self"] := by
      rcases hC with rfl | rfl | rfl | rfl | rfl
      · exact T.m_depth_fx
      · exact T.m_depth_ct
      · exact T.m_depth_tn
      · exact T.m_depth_sr
      · exact T.m_depth_br
    exact ok_depth T (disp_depth T n) (by omega) hC D
/-! ### bounded: what is within the limits is let by -/
def spBounded (cl : Cl) (C : Addr) : Sp := fun vs H Q _ => ∃ (a dx : Addr) (fs : List (Str × V)) (c : Cond), vs = [.ref a] ∧ H a = some (.ins C dx fs) ∧ IsP cl H (.ref a) c ∧ c.depth ≤ 20 ∧ c.size ≤ 60 ∧
  ∀ (H' : Hp), Same H H' → Q .non H'
theorem disp_bounded (T : TParts K mg cl) : DispAt P w K mg base CX0 (fun C => C = cl.tn ∨ C = cl.sr ∨ C = cl.br) "bounded" 22 ["self"] (spBounded cl) := by
  have G_size : DispAt P w K mg base CX0 cl.has "size" 21 ["self"] (spSize cl 20) := disp_size T 20
  have G_depth : DispAt P w K mg base CX0 cl.has "depth" 21 ["self"] (spDepth cl 20) := disp_depth T 20
  refine ⟨fun C hC => ?_⟩
  have hC' : cl.has C := by
    rcases hC with rfl | rfl | rfl
    · exact .inr (.inr (.inl rfl))
    · exact .inr (.inr (.inr (.inl rfl)))
    · exact .inr (.inr (.inr (.inr rfl)))
  have D : MethAt K C "bounded" "Part.bounded" s_Part_bounded ["self"] := by
    rcases hC with rfl | rfl | rfl
    · exact T.m_bounded_tn
    · exact T.m_bounded_sr
    · exact T.m_bounded_br
  refine methAt_ok (T.cls hC') D sc_Part_bounded (fun vs H Q E h => ?_) (fun f cdv A outer s H vs Q E hr h => ?_)
  · obtain ⟨a, dx, fs, c, rfl, _⟩ := h; rfl
  · obtain ⟨a, dx, fs, c, rfl, ha, p, hd, hz, q⟩ := h
    refine ⟨_, (pss_one (ps_if (PW.pt (pw_or (pt_cmpR op_gt (pe_methD0 G_size hr pass0 (pv 0)) (pe_gc T.g_MOST_SIZE) (nomark _)) (pw_or1 (pt_cmpR op_gt (pe_methD0 G_depth hr pass0 (pv 0)) (pe_gc T.g_MOST_DEEP) (nomark _))))) (pss_one ps_never) pss_nil)), ?_⟩
    refine ⟨_, rfl, a, C, dx, fs, rfl, ha, hC', look_of (by decide +kernel) ha p, a, dx, fs, c, rfl, ha, p, hd, by omega, fun H1 s1 => ?_⟩
    refine ⟨_, _, rfl, rfl, _, rfl, ?_⟩
    rw [decide_eq_false (show ¬ (60 : Int) < (c.size : Int) by omega)]
    have ha1 := s1 _ _ ha
    have p1 := p.mono (Same.imm (T := cl.has) s1)
    refine iteF ⟨_, rfl, a, C, dx, fs, rfl, ha1, hC', look_of (by decide +kernel) ha p, a, dx, fs, c, rfl, ha1, p1, hd, by omega, fun H2 s2 => ?_⟩
    refine ⟨_, _, rfl, rfl, _, rfl, ?_⟩
    rw [decide_eq_false (show ¬ (20 : Int) < (c.depth : Int) by omega)]
    exact iteF (q _ (s1.trans s2))
end

--%% M2
/-! ## gather, contacts -/
abbrev s_Part_gather : Stmt := inClass (top 18) 6
theorem sc_Part_gather : FnScope ["self", "found", "part"] ["self", "found"] (defScope s_Part_gather) := ⟨rfl, rfl, rfl, by decide +kernel, rfl, by decide +kernel, by decide +kernel⟩
abbrev s_Contact_gather : Stmt := inClass (top 20) 4
theorem sc_Contact_gather : FnScope ["self", "found"] ["self", "found"] (defScope s_Contact_gather) := ⟨rfl, rfl, rfl, by decide +kernel, rfl, by decide +kernel, by decide +kernel⟩
abbrev s_Part_contacts : Stmt := inClass (top 18) 7
theorem sc_Part_contacts : FnScope ["self", "found"] ["self"] (defScope s_Part_contacts) := ⟨rfl, rfl, rfl, by decide +kernel, rfl, by decide +kernel, by decide +kernel⟩
structure TGather (K : PySem.W.Frag) (mg : Str → Option Value) (cl : Cl) : Prop where
  parts : TParts K mg cl
  m_gather_fx : MethAt K cl.fx "gather" "Part.gather" s_Part_gather ["self", "found"]
  m_gather_ct : MethAt K cl.ct "gather" "Contact.gather" s_Contact_gather ["self", "found"]
  m_gather_tn : MethAt K cl.tn "gather" "Part.gather" s_Part_gather ["self", "found"]
  m_gather_sr : MethAt K cl.sr "gather" "Part.gather" s_Part_gather ["self", "found"]
  m_gather_br : MethAt K cl.br "gather" "Part.gather" s_Part_gather ["self", "found"]
  m_contacts_fx : MethAt K cl.fx "contacts" "Part.contacts" s_Part_contacts ["self"]
  m_contacts_ct : MethAt K cl.ct "contacts" "Part.contacts" s_Part_contacts ["self"]
  m_contacts_tn : MethAt K cl.tn "contacts" "Part.contacts" s_Part_contacts ["self"]
  m_contacts_sr : MethAt K cl.sr "contacts" "Part.contacts" s_Part_contacts ["self"]
  m_contacts_br : MethAt K cl.br "contacts" "Part.contacts" s_Part_contacts ["self"]
  z_tuple : mg "tuple" = none
section
variable {P : Program} {w : World} {K : PySem.W.Frag} {mg : Str → Option Value} {base : Heap} {cl : Cl}
/-! ### gather, contacts -/
def nm (l : List Str) : List (Key × V) := l.map fun n => (.inr n, .bl true)
theorem nm_any (n : Str) : ∀ l : List Str, ((nm l).any fun kv => decide (kv.1 = (Sum.inr n : Key))) = decide (n ∈ l)
  | [] => by simp [nm]
  | x :: l => by
    have ih := nm_any n l
    unfold nm at ih ⊢
    rw [List.map_cons, List.any_cons, ih, Bool.eq_iff_iff]
    simp only [Bool.or_eq_true, decide_eq_true_eq, List.mem_cons]
    constructor
    · rintro (h | h)
      · injection h with h
        exact .inl h.symm
      · exact .inr h
    · rintro (rfl | h)
      · exact .inl rfl
      · exact .inr h
theorem nm_put (l : List Str) (n : Str) : putK (nm l) (Sum.inr n : Key) (.bl true) = nm (addN l n) := by
  unfold putK addN
  rw [nm_any]
  by_cases h : n ∈ l
  · rw [decide_eq_true h, if_pos rfl, if_pos h]
    unfold nm
    rw [List.map_map]
    apply List.map_congr_left
    intro x _
    simp only [Function.comp]
    split <;> rfl
  · rw [decide_eq_false h, if_neg (by decide), if_neg h]
    simp [nm]
theorem addN_len (l : List Str) (n : Str) : (addN l n).length ≤ l.length + 1 := by
  unfold addN
  split <;> simp
mutual
theorem gather_len : ∀ (c : Cond) (l : List Str), (c.gather l).length ≤ l.length + c.size
  | .fixed _, l => by simp [Cond.gather]
  | .contact n, l => by
    have := addN_len l n
    simp [Cond.gather, Cond.size]
    omega
  | .not c, l => by
    have := gather_len c l
    simp [Cond.gather, Cond.size]
    omega
  | .grp _ cs, l => by
    have := gathers_len cs l
    simp [Cond.gather, Cond.size]
    omega
theorem gathers_len : ∀ (cs : List Cond) (l : List Str), (Cond.gathers l cs).length ≤ l.length + Cond.sizes cs
  | [], l => by simp [Cond.gathers]
  | c :: cs, l => by
    have h1 := gather_len c l
    have h2 := gathers_len cs (c.gather l)
    simp [Cond.gathers, Cond.sizes]
    omega
end
theorem gathers_take (l : List Str) (cs : List Cond) {i : Nat} {c : Cond} (h : cs[i]? = some c) : Cond.gathers l (cs.take (i + 1)) = c.gather (Cond.gathers l (cs.take i)) := by
  rw [Cond.gathers_fold, Cond.gathers_fold, List.take_succ, h, List.foldl_append]
  rfl
theorem sizes_take : ∀ (cs : List Cond) (i : Nat) {c : Cond}, cs[i]? = some c → Cond.sizes (cs.take i) + c.size ≤ Cond.sizes cs
  | [], i, c, h => by simp at h
  | x :: cs, 0, c, h => by
    simp at h
    subst h
    simp [Cond.sizes]
  | x :: cs, i + 1, c, h => by
    have := sizes_take cs i (c := c) (by simpa using h)
    simp [Cond.sizes]
    omega
def spGather (cl : Cl) (n : Nat) (C : Addr) : Sp := fun vs H Q _ => ∃ (a dx d : Addr) (fs : List (Str × V)) (c : Cond) (l : List Str), vs = [.ref a, .ref d] ∧ H a = some (.ins C dx fs) ∧ IsP cl H (.ref a) c ∧ c.depth ≤ n ∧ H d = some (.dK (nm l)) ∧ l.length + c.size ≤ 1000 ∧
  ∀ (H' : Hp), But d H H' → H' d = some (.dK (nm (c.gather l))) → Q .non H'
theorem ok_gather (T : TGather K mg cl) {n k : Nat} (G_gather : DispAt P w K mg base CX0 cl.has "gather" k ["self", "found"] (spGather cl n)) (hk : 1 ≤ k) {C : Addr} (hC : cl.has C) (hct : C ≠ cl.ct) (D : MethAt K C "gather" "Part.gather" s_Part_gather ["self", "found"]) :
    ∃ f fd, Cls K C ∧ Meth K C "gather" f ∧ Binds K fd ["self", "found"] [] ∧ FnOk P w K mg base CX0 (k + 1) f fd ["self", "found"] (spGather cl (n + 1) C) := by
  have G_inner : DispAt P w K mg base CX0 cl.has "inner" 1 ["self"] (spInner cl) := disp_inner T.parts
  refine methAt_ok (T.parts.cls hC) D sc_Part_gather (fun vs H Q E h => ?_) (fun f cdv A outer s H vs Q E hr h => ?_)
  · obtain ⟨a, dx, d, fs, c, l, rfl, _⟩ := h; rfl
  · obtain ⟨a, dx, d, fs, c, l, rfl, ha, p, hd, hD, hz, q⟩ := h
    refine ⟨_, (pss_one (ps_for PassesOwn.never rfl (pi_tup (pe_methD0 G_inner hr pass0 (pv 0) hk)) (pg_name (i := 2) sc_Part_gather.nd rfl (by first | exact Or.inl rfl | exact Or.inr rfl)) (pss_one (ps_expr (pe_methD G_gather hr pass0 (pv 2) (pa_cons (pv 1) pa_nil) (Nat.le_refl _)))))), ?_⟩
    refine ⟨_, rfl, a, C, dx, fs, rfl, ha, hC, look_of (by decide +kernel) ha p, a, dx, fs, c, rfl, ha, p, fun H1 t ws s1 ht ps => ?_⟩
    have hlen := ps.length
    refine ⟨t, rfl, ⟨_, SqT.of ht⟩, for_tup (K := K) (a := t) (xs := ws) (fun i σ H' => ∃ v, σ = [some (.ref a), some (.ref d), v] ∧ But d H1 H' ∧ H' d = some (.dK (nm (Cond.gathers l (c.kids.take i)))))
      ⟨none, rfl, Same.but (Same.refl _), s1 _ _ hD⟩ (fun i σ H' _ ⟨_, _, b1, _⟩ => SqT.of (b1 _ _ ht (ne_of ht (s1 _ _ hD) (by intro z; cases z)))) ?_ ?_⟩
    · rintro i y σ H2 hy ⟨v, rfl, b1, q2⟩
      obtain ⟨c', hc', p'⟩ := (ps.mono (b1.imm (s1 _ _ hD) id)).at hy
      obtain ⟨a', C', dx', fs', rfl, ha', hC', hl'⟩ := meth_of (m := "gather") (by decide +kernel) p'
      have hm := List.mem_of_getElem? hc'
      have h1 := Cond.depth_mem hm
      have h3 := c.depth_kids
      have h4 := c.size_kids
      have h5 := gathers_len (c.kids.take i) l
      have h6 := sizes_take c.kids i hc'
      refine ⟨_, rfl, a', C', dx', fs', rfl, ha', hC', hl', _, rfl, a', dx', d, fs', c', Cond.gathers l (c.kids.take i), rfl, ha', p', by omega, q2, by omega, fun H3 b3 q3 => ?_⟩
      refine ⟨_, rfl, b1.trans b3, ?_⟩
      rw [gathers_take l c.kids hc']
      exact q3
    · rintro σ H2 ⟨v, rfl, b1, q2⟩
      rw [hlen, List.take_of_length_le (Nat.le_refl _)] at q2
      refine q _ (But.trans (Same.but s1) b1) ?_
      rw [q2]
      cases c with
      | contact n =>
        exfalso
        obtain ⟨a', C', dx', f', x', e, h, hc, hf⟩ := p.obj
        cases p with
        | contact h => rw [ha] at h; cases h; exact hct rfl
      | fixed b => rfl
      | not c => simp [Cond.kids, Cond.gathers, Cond.gather]
      | grp s cs => rfl
theorem ok_gather_ct (T : TGather K mg cl) (n : Nat) {k : Nat} (hk : 1 ≤ k) (D : MethAt K cl.ct "gather" "Contact.gather" s_Contact_gather ["self", "found"]) :
    ∃ f fd, Cls K cl.ct ∧ Meth K cl.ct "gather" f ∧ Binds K fd ["self", "found"] [] ∧ FnOk P w K mg base CX0 k f fd ["self", "found"] (spGather cl n cl.ct) := by
  have h : ∃ f fd, Cls K cl.ct ∧ Meth K cl.ct "gather" f ∧ Binds K fd ["self", "found"] [] ∧ FnOk P w K mg base CX0 1 f fd ["self", "found"] (spGather cl n cl.ct) := by
    refine methAt_ok T.parts.c_Contact.cl D sc_Contact_gather (fun vs H Q E h => ?_) (fun f cdv A outer s H vs Q E hr h => ?_)
    · obtain ⟨a, dx, d, fs, c, l, rfl, _⟩ := h; rfl
    · obtain ⟨a, dx, d, fs, c, l, rfl, ha, p, hd, hD, hz, q⟩ := h
      have hu := hu_of hr
      obtain ⟨m, rfl, rfl⟩ := inv_ct T.parts.nd ha p
      refine ⟨_, (pss_one (ps_dput hu (pv 1) (pe_fld (pv 0) rfl) pe_bl rfl)), ?_⟩
      refine ⟨_, rfl, _, rfl, a, _, dx, _, _, rfl, ha, T.parts.c_Contact.cl, T.parts.nn_ct, lk1s, d, _, rfl, DPut.k (k := Sum.inr m) hD ?_, ?_⟩
      · unfold nm
        rw [List.length_map]
        exact small1000 (by omega)
      · rw [nm_put]
        exact q _ But.upd upd_same
  obtain ⟨f, fd, h1, h2, h3, h4⟩ := h
  exact ⟨f, fd, h1, h2, h3, h4.mono hk⟩
theorem disp_gather (T : TGather K mg cl) : ∀ n : Nat, DispAt P w K mg base CX0 cl.has "gather" (n + 1) ["self", "found"] (spGather cl n) := by
  have nd := T.parts.nd
  simp only [List.nodup_cons, List.mem_cons, List.not_mem_nil, or_false, not_or] at nd
  have each : ∀ C, cl.has C → C ≠ cl.ct → MethAt K C "gather" "Part.gather" s_Part_gather ["self", "found"] := by
    intro C hC hct
    rcases hC with rfl | rfl | rfl | rfl | rfl
    · exact T.m_gather_fx
    · exact absurd rfl hct
    · exact T.m_gather_tn
    · exact T.m_gather_sr
    · exact T.m_gather_br
  intro n
  induction n with
  | zero =>
    refine ⟨fun C hC => ?_⟩
    by_cases hct : C = cl.ct
    · subst hct
      exact ok_gather_ct T 0 (Nat.le_refl _) T.m_gather_ct
    · refine methAt_ok (T.parts.cls hC) (each C hC hct) sc_Part_gather (fun vs H Q E h => ?_) (fun f cdv A outer s H vs Q E hr h => ?_)
      · obtain ⟨a, dx, d, fs, c, l, rfl, _⟩ := h; rfl
      · obtain ⟨a, dx, d, fs, c, l, rfl, ha, p, hd, _⟩ := h
        exact absurd c.depth_pos (by omega)
  | succ n ih =>
    refine ⟨fun C hC => ?_⟩
    by_cases hct : C = cl.ct
    · subst hct
      exact ok_gather_ct T _ (by omega) T.m_gather_ct
    · exact ok_gather T ih (by omega) hC hct (each C hC hct)
def spContacts (cl : Cl) (n : Nat) (C : Addr) : Sp := fun vs H Q _ => ∃ (a dx : Addr) (fs : List (Str × V)) (c : Cond), vs = [.ref a] ∧ H a = some (.ins C dx fs) ∧ IsP cl H (.ref a) c ∧ c.depth ≤ n ∧ c.size ≤ 1000 ∧
  ∀ (H' : Hp) (t : Addr), Same H H' → H' t = some (.tup (c.contacts.map V.str)) → H t = none → Q (.ref t) H'
theorem disp_contacts (T : TGather K mg cl) (n : Nat) : DispAt P w K mg base CX0 cl.has "contacts" (n + 2) ["self"] (spContacts cl n) := by
  have G_gather : DispAt P w K mg base CX0 cl.has "gather" (n + 1) ["self", "found"] (spGather cl n) := disp_gather T n
  refine ⟨fun C hC => ?_⟩
  have D : MethAt K C "contacts" "Part.contacts" s_Part_contacts ["self"] := by
    rcases hC with rfl | rfl | rfl | rfl | rfl
    · exact T.m_contacts_fx
    · exact T.m_contacts_ct
    · exact T.m_contacts_tn
    · exact T.m_contacts_sr
    · exact T.m_contacts_br
  refine methAt_ok (T.parts.cls hC) D sc_Part_contacts (fun vs H Q E h => ?_) (fun f cdv A outer s H vs Q E hr h => ?_)
  · obtain ⟨a, dx, fs, c, rfl, _⟩ := h; rfl
  · obtain ⟨a, dx, fs, c, rfl, ha, p, hd, hz, q⟩ := h
    refine ⟨_, (pss_cons (ps_set (i := 1) sc_Part_contacts.nd rfl (by first | exact Or.inl rfl | exact Or.inr rfl) pe_dnewK)
        (pss_cons (ps_expr (pe_methD G_gather hr pass0 (pv 0) (pa_cons (pv 1) pa_nil) (Nat.le_refl _)))
        (pss_one (ps_ret (pe_tupKeys T.z_tuple (pv 1)))))), ?_⟩
    intro d nd
    have ha1 : upd H d (.dK []) a = some (.ins C dx fs) := Same.new nd _ _ ha
    refine ⟨_, rfl, a, C, dx, fs, rfl, ha1, hC, look_of (by decide +kernel) ha p, _, rfl, a, dx, d, fs, c, [], rfl, ha1, p.mono (Imm.new nd), hd, upd_same, by simpa using hz, fun H1 b1 h1 => ?_⟩
    refine ⟨_, rfl, d, _, rfl, h1, fun t nt => ?_⟩
    have s1 : Same H H1 := b1.same (Same.new nd) nd
    refine q _ t (s1.trans (Same.new nt)) ?_ (s1.free nt)
    rw [upd_same]
    unfold nm
    rw [List.map_map]
    rfl
end

--%% M3
/-! ## told -/
mutual
/-- at v stands the tuple that c tells -/
inductive IsT (H : Hp) : V → Cond → Prop
  | fixed {a : Addr} {b : Bool} (h : H a = some (.tup [.str "fixed", .bl b])) : IsT H (.ref a) (.fixed b)
  | contact {a : Addr} {n : Str} (h : H a = some (.tup [.str "contact", .str n])) : IsT H (.ref a) (.contact n)
  | not {a : Addr} {v : V} {c : Cond} (h : H a = some (.tup [.str "not", v])) (p : IsT H v c) : IsT H (.ref a) (.not c)
  | grp {a : Addr} {vs : List V} {s : Bool} {cs : List Cond} (h : H a = some (.tup (.str (word s) :: vs))) (p : IsTs H vs cs) : IsT H (.ref a) (.grp s cs)
inductive IsTs (H : Hp) : List V → List Cond → Prop
  | nil : IsTs H [] []
  | cons {v : V} {vs : List V} {c : Cond} {cs : List Cond} (h : IsT H v c) (t : IsTs H vs cs) : IsTs H (v :: vs) (c :: cs)
end
section
variable {T : Addr → Prop} {K : PySem.W.Frag} {H H' : Hp} {v : V} {vs : List V} {c : Cond} {cs : List Cond}
mutual
theorem IsT.mono (k : Imm T H H') : ∀ {v : V} {c : Cond}, IsT H v c → IsT H' v c
  | _, _, .fixed h => .fixed (k _ _ h trivial)
  | _, _, .contact h => .contact (k _ _ h trivial)
  | _, _, .not h p => .not (k _ _ h trivial) (p.mono k)
  | _, _, .grp h p => .grp (k _ _ h trivial) (p.mono k)
theorem IsTs.mono (k : Imm T H H') : ∀ {vs : List V} {cs : List Cond}, IsTs H vs cs → IsTs H' vs cs
  | _, _, .nil => .nil
  | _, _, .cons p t => .cons (p.mono k) (t.mono k)
end
mutual
theorem IsT.dp : ∀ {v : V} {c : Cond}, IsT H v c → Dp K H v c.told
  | _, _, .fixed h => .tup (SqT.of h) (.cons (.str _) (.cons (.bl _) .nil))
  | _, _, .contact h => .tup (SqT.of h) (.cons (.str _) (.cons (.str _) .nil))
  | _, _, .not h p => .tup (SqT.of h) (.cons (.str _) (.cons p.dp .nil))
  | _, _, .grp h p => .tup (SqT.of h) (.cons (.str _) p.dp)
theorem IsTs.dp : ∀ {vs : List V} {cs : List Cond}, IsTs H vs cs → DpAll K H vs (Cond.tolds cs)
  | _, _, .nil => .nil
  | _, _, .cons p t => .cons p.dp t.dp
end
theorem IsTs.length : ∀ {vs : List V} {cs : List Cond}, IsTs H vs cs → vs.length = cs.length
  | _, _, .nil => rfl
  | _, _, .cons _ t => by rw [List.length_cons, List.length_cons, IsTs.length t]
theorem IsTs.at : ∀ {vs : List V} {cs : List Cond} {i : Nat} {v : V}, IsTs H vs cs → vs[i]? = some v → ∃ c, cs[i]? = some c ∧ IsT H v c
  | _, _, i, v, .nil, h => by simp at h
  | _, _, 0, v, .cons p t, h => by
    simp at h
    subst h
    exact ⟨_, rfl, p⟩
  | _, _, i + 1, v, .cons p t, h => by
    obtain ⟨c, h1, h2⟩ := IsTs.at (i := i) (v := v) t (by simpa using h)
    exact ⟨c, by simpa using h1, h2⟩
theorem IsTs.snoc : ∀ {vs : List V} {cs : List Cond} {v : V} {c : Cond}, IsTs H vs cs → IsT H v c → IsTs H (vs ++ [v]) (cs ++ [c])
  | _, _, _, _, .nil, p => .cons p .nil
  | _, _, _, _, .cons q t, p => .cons q (t.snoc p)
theorem IsT.ref (p : IsT H v c) : ∃ a xs, v = .ref a ∧ H a = some (.tup xs) := by
  cases p with
  | fixed h => exact ⟨_, _, rfl, h⟩
  | contact h => exact ⟨_, _, rfl, h⟩
  | not h _ => exact ⟨_, _, rfl, h⟩
  | grp h _ => exact ⟨_, _, rfl, h⟩
end
theorem IsTs.take {H : Hp} : ∀ {vs : List V} {cs : List Cond} (n : Nat), IsTs H vs cs → IsTs H (vs.take n) (cs.take n)
  | _, _, 0, _ => .nil
  | _, _, _ + 1, .nil => .nil
  | _, _, n + 1, .cons p t => .cons p (IsTs.take n t)
theorem IsTs.drop {H : Hp} : ∀ {vs : List V} {cs : List Cond} (n : Nat), IsTs H vs cs → IsTs H (vs.drop n) (cs.drop n)
  | _, _, 0, p => p
  | _, _, _ + 1, .nil => .nil
  | _, _, n + 1, .cons p t => IsTs.drop n t
theorem IsTs.app {H : Hp} : ∀ {vs ws : List V} {cs ds : List Cond}, IsTs H vs cs → IsTs H ws ds → IsTs H (vs ++ ws) (cs ++ ds)
  | _, _, _, _, .nil, q => q
  | _, _, _, _, .cons p t, q => .cons p (t.app q)
theorem IsTs.reverse {H : Hp} : ∀ {vs : List V} {cs : List Cond}, IsTs H vs cs → IsTs H vs.reverse cs.reverse
  | _, _, .nil => .nil
  | _, _, .cons p t => by
    rw [List.reverse_cons, List.reverse_cons]
    exact (IsTs.reverse t).snoc p
abbrev s_Fixed_told : Stmt := inClass (top 19) 2
theorem sc_Fixed_told : FnScope ["self"] ["self"] (defScope s_Fixed_told) := ⟨rfl, rfl, rfl, by decide +kernel, rfl, by decide +kernel, by decide +kernel⟩
abbrev s_Contact_told : Stmt := inClass (top 20) 2
theorem sc_Contact_told : FnScope ["self"] ["self"] (defScope s_Contact_told) := ⟨rfl, rfl, rfl, by decide +kernel, rfl, by decide +kernel, by decide +kernel⟩
abbrev s_Turned_told : Stmt := inClass (top 21) 3
theorem sc_Turned_told : FnScope ["self"] ["self"] (defScope s_Turned_told) := ⟨rfl, rfl, rfl, by decide +kernel, rfl, by decide +kernel, by decide +kernel⟩
abbrev s_Group_told : Stmt := inClass (top 22) 4
theorem sc_Group_told : FnScope ["self", "part"] ["self"] (defScope s_Group_told) := ⟨rfl, rfl, rfl, by decide +kernel, rfl, by decide +kernel, by decide +kernel⟩
abbrev s_Series_word : Stmt := inClass (top 23) 1
theorem sc_Series_word : FnScope ["self"] ["self"] (defScope s_Series_word) := ⟨rfl, rfl, rfl, by decide +kernel, rfl, by decide +kernel, by decide +kernel⟩
abbrev s_Branch_word : Stmt := inClass (top 24) 1
theorem sc_Branch_word : FnScope ["self"] ["self"] (defScope s_Branch_word) := ⟨rfl, rfl, rfl, by decide +kernel, rfl, by decide +kernel, by decide +kernel⟩
structure TTold (K : PySem.W.Frag) (mg : Str → Option Value) (cl : Cl) : Prop where
  parts : TParts K mg cl
  m_told_fx : MethAt K cl.fx "told" "Fixed.told" s_Fixed_told ["self"]
  m_told_ct : MethAt K cl.ct "told" "Contact.told" s_Contact_told ["self"]
  m_told_tn : MethAt K cl.tn "told" "Turned.told" s_Turned_told ["self"]
  m_told_sr : MethAt K cl.sr "told" "Group.told" s_Group_told ["self"]
  m_told_br : MethAt K cl.br "told" "Group.told" s_Group_told ["self"]
  m_word_sr : MethAt K cl.sr "word" "Series.word" s_Series_word ["self"]
  m_word_br : MethAt K cl.br "word" "Branch.word" s_Branch_word ["self"]
  z_tuple : mg "tuple" = none
section
variable {P : Program} {w : World} {K : PySem.W.Frag} {mg : Str → Option Value} {base : Heap} {cl : Cl}
def Cl.grp (cl : Cl) (C : Addr) : Prop := C = cl.sr ∨ C = cl.br
theorem Cl.grp_gr (cl : Cl) (s : Bool) : cl.grp (cl.gr s) := by
  cases s
  · exact .inr rfl
  · exact .inl rfl
theorem TParts.srbr (T : TParts K mg cl) : cl.sr ≠ cl.br := by
  have nd := T.nd
  simp only [List.nodup_cons, List.mem_cons, List.not_mem_nil, or_false, not_or] at nd
  exact nd.2.2.2.1
def spWordM (cl : Cl) (C : Addr) : Sp := fun vs H Q _ => ∃ (a dx : Addr) (fs : List (Str × V)) (s : Bool), vs = [.ref a] ∧ H a = some (.ins C dx fs) ∧ C = cl.gr s ∧ Q (.str (word s)) H
theorem disp_word (T : TTold K mg cl) : DispAt P w K mg base CX0 cl.grp "word" 1 ["self"] (spWordM cl) := by
  refine ⟨fun C hC => ?_⟩
  rcases hC with rfl | rfl
  · refine methAt_ok T.parts.c_Series.cl T.m_word_sr sc_Series_word (fun vs H Q E h => ?_) (fun f cdv A outer st H vs Q E hr h => ?_)
    · obtain ⟨a, dx, fs, s, rfl, _⟩ := h; rfl
    · obtain ⟨a, dx, fs, s, rfl, ha, hs, q⟩ := h
      refine ⟨_, (pss_one (ps_ret pe_str)), ?_⟩
      cases s
      · exact absurd hs T.parts.srbr
      · exact q
  · refine methAt_ok T.parts.c_Branch.cl T.m_word_br sc_Branch_word (fun vs H Q E h => ?_) (fun f cdv A outer st H vs Q E hr h => ?_)
    · obtain ⟨a, dx, fs, s, rfl, _⟩ := h; rfl
    · obtain ⟨a, dx, fs, s, rfl, ha, hs, q⟩ := h
      refine ⟨_, (pss_one (ps_ret pe_str)), ?_⟩
      cases s
      · exact q
      · exact absurd hs.symm T.parts.srbr
def spTold (cl : Cl) (n : Nat) (C : Addr) : Sp := fun vs H Q _ => ∃ (a dx : Addr) (fs : List (Str × V)) (c : Cond), vs = [.ref a] ∧ H a = some (.ins C dx fs) ∧ IsP cl H (.ref a) c ∧ c.depth ≤ n ∧ c.size ≤ 1000 ∧
  ∀ (H' : Hp) (v : V), Same H H' → IsT H' v c → Q v H'
theorem ok_told_fx (T : TTold K mg cl) (n : Nat) : ∃ f fd, Cls K cl.fx ∧ Meth K cl.fx "told" f ∧ Binds K fd ["self"] [] ∧ FnOk P w K mg base CX0 1 f fd ["self"] (spTold cl n cl.fx) := by
  refine methAt_ok T.parts.c_Fixed.cl T.m_told_fx sc_Fixed_told (fun vs H Q E h => ?_) (fun f cdv A outer st H vs Q E hr h => ?_)
  · obtain ⟨a, dx, fs, c, rfl, _⟩ := h; rfl
  · obtain ⟨a, dx, fs, c, rfl, ha, p, hd, hz, q⟩ := h
    obtain ⟨b, rfl, rfl⟩ := inv_fx T.parts.nd ha p
    refine ⟨_, (pss_one (ps_ret (pe_tup (pa_cons pe_str (pa_cons (pe_fld (pv 0) rfl) pa_nil))))), ?_⟩
    refine ⟨_, rfl, a, _, dx, _, _, rfl, ha, T.parts.c_Fixed.cl, T.parts.nv_fx, lk1s, line_ge (by simp), fun t nt => ?_⟩
    exact q _ _ (Same.new nt) (.fixed upd_same)
theorem ok_told_ct (T : TTold K mg cl) (n : Nat) : ∃ f fd, Cls K cl.ct ∧ Meth K cl.ct "told" f ∧ Binds K fd ["self"] [] ∧ FnOk P w K mg base CX0 1 f fd ["self"] (spTold cl n cl.ct) := by
  refine methAt_ok T.parts.c_Contact.cl T.m_told_ct sc_Contact_told (fun vs H Q E h => ?_) (fun f cdv A outer st H vs Q E hr h => ?_)
  · obtain ⟨a, dx, fs, c, rfl, _⟩ := h; rfl
  · obtain ⟨a, dx, fs, c, rfl, ha, p, hd, hz, q⟩ := h
    obtain ⟨b, rfl, rfl⟩ := inv_ct T.parts.nd ha p
    refine ⟨_, (pss_one (ps_ret (pe_tup (pa_cons pe_str (pa_cons (pe_fld (pv 0) rfl) pa_nil))))), ?_⟩
    refine ⟨_, rfl, a, _, dx, _, _, rfl, ha, T.parts.c_Contact.cl, T.parts.nn_ct, lk1s, line_ge (by simp), fun t nt => ?_⟩
    exact q _ _ (Same.new nt) (.contact upd_same)
theorem ok_told_tn (T : TTold K mg cl) {n k : Nat} (G_told : DispAt P w K mg base CX0 cl.has "told" k ["self"] (spTold cl n)) :
    ∃ f fd, Cls K cl.tn ∧ Meth K cl.tn "told" f ∧ Binds K fd ["self"] [] ∧ FnOk P w K mg base CX0 (k + 1) f fd ["self"] (spTold cl (n + 1) cl.tn) := by
  refine methAt_ok T.parts.c_Turned.cl T.m_told_tn sc_Turned_told (fun vs H Q E h => ?_) (fun f cdv A outer st H vs Q E hr h => ?_)
  · obtain ⟨a, dx, fs, c, rfl, _⟩ := h; rfl
  · obtain ⟨a, dx, fs, c, rfl, ha, p, hd, hz, q⟩ := h
    obtain ⟨v, c', rfl, rfl, p'⟩ := inv_tn T.parts.nd ha p
    rw [Cond.depth] at hd
    rw [Cond.size] at hz
    refine ⟨_, (pss_one (ps_ret (pe_tup (pa_cons pe_str (pa_cons (pe_methD0 G_told hr pass0 (pe_fld (pv 0) rfl) (Nat.le_refl _)) pa_nil))))), ?_⟩
    obtain ⟨a', C', dx', fs', rfl, ha', hC', hl'⟩ := meth_of (m := "told") (by decide +kernel) p'
    refine ⟨_, rfl, a, _, dx, _, _, rfl, ha, T.parts.c_Turned.cl, T.parts.np_tn, lk1s, a', C', dx', fs', rfl, ha', hC', hl', a', dx', fs', c', rfl, ha', p', by omega, by omega, fun H1 v s1 ht => ?_⟩
    refine ⟨line_ge (by simp), fun t nt => ?_⟩
    exact q _ _ (s1.trans (Same.new nt)) (.not upd_same (ht.mono (T := cl.has) (Imm.new nt)))
theorem ok_told_gr (T : TTold K mg cl) {n k : Nat} (G_told : DispAt P w K mg base CX0 cl.has "told" k ["self"] (spTold cl n)) (hk : 1 ≤ k) (s : Bool) (D : MethAt K (cl.gr s) "told" "Group.told" s_Group_told ["self"]) :
    ∃ f fd, Cls K (cl.gr s) ∧ Meth K (cl.gr s) "told" f ∧ Binds K fd ["self"] [] ∧ FnOk P w K mg base CX0 (k + 1) f fd ["self"] (spTold cl (n + 1) (cl.gr s)) := by
  have G_word : DispAt P w K mg base CX0 cl.grp "word" 1 ["self"] (spWordM cl) := disp_word T
  refine methAt_ok (T.parts.cls (cl.has_gr s)) D sc_Group_told (fun vs H Q E h => ?_) (fun f cdv A outer st H vs Q E hr h => ?_)
  · obtain ⟨a, dx, fs, c, rfl, _⟩ := h; rfl
  · obtain ⟨a, dx, fs, c, rfl, ha, p, hd, hz, q⟩ := h
    obtain ⟨t, ws, cs, rfl, rfl, ht, ps⟩ := inv_gr T.parts.nd rfl ha p
    rw [Cond.depth] at hd
    rw [Cond.size] at hz
    have hlen := ps.length
    have hz2 := Cond.len_sizes cs
    refine ⟨_, (pss_one (ps_ret (pe_op op_catT (pe_tup (pa_cons (pe_methD0 G_word hr pass0 (pv 0) hk) pa_nil)) (pe_callTy call_tuple_of (by rfl) T.z_tuple (show PySem.bootBuiltins "tuple" = some (.type "tuple") by decide +kernel) (pa_cons (pe_lc (own := [("part", 1)]) (g := gName 1) (tt := tYes) rfl sc_Group_told.nd (pi_tup (pe_fld (pv 0) rfl)) (blkOk_by (own := [("part", 1)]) (N := ["self", "part"]) (sc := defScope s_Group_told) (by decide +kernel)) (fun _ _ _ _ _ => pg_name (i := 1) sc_Group_told.nd rfl (Or.inl rfl)) (fun _ _ _ _ _ => pts_nil) (fun _ _ _ _ _ => (pe_methD0 G_told hr pass0 (pv 1) (Nat.le_refl _)))) pa_nil))))), ?_⟩
    refine ⟨_, rfl, a, _, dx, _, rfl, ha, cl.grp_gr s, lk1 (by decide +kernel), a, dx, _, s, rfl, ha, rfl, line_ge (by simp), fun t1 nt1 => ?_⟩
    have ha1 := Same.new nt1 (o := .tup [.str (word s)]) _ _ ha
    refine ⟨_, rfl, a, _, dx, _, _, rfl, ha1, T.parts.cls (cl.has_gr s), T.parts.np s, lk1s, ?_⟩
    have ht1 := Same.new nt1 (o := .tup [.str (word s)]) _ _ ht
    refine ⟨t, rfl, ⟨_, SqT.of ht1⟩, fun D nD => lc_tup (K := K) (a := t) (xs := ws) (fun i H' => Same (upd H t1 (.tup [.str (word s)])) H' ∧ ∃ vs, H' D = some (.lst vs) ∧ IsTs H' vs (cs.take i))
      ⟨Same.new nD, [], upd_same, by simpa using .nil⟩ (fun i H' _ q => SqT.of (q.1 _ _ ht1)) ?_ ?_⟩
    · rintro i y H2 hy ⟨q1, vs, q2, q3⟩
      obtain ⟨c', hc', p'⟩ := (ps.mono (Same.imm ((Same.new nt1).trans q1))).at hy
      obtain ⟨a', C', dx', fs', rfl, ha', hC', hl'⟩ := meth_of (m := "told") (by decide +kernel) p'
      have hm := List.mem_of_getElem? hc'
      have h1 := Cond.depth_mem hm
      have h2 := Cond.size_mem hm
      refine ⟨rfl, _, rfl, a', C', dx', fs', rfl, ha', hC', hl', a', dx', fs', c', rfl, ha', p', by omega, by omega, fun H3 v s3 hv => ?_⟩
      have q2' := s3 _ _ q2
      have hl := q3.length
      rw [List.length_take] at hl
      refine ⟨vs, q2', by rw [sizeLine_eq]; omega, Same.mut (q1.trans s3) nD, vs ++ [v], upd_same, ?_⟩
      have im : Imm cl.has H3 (upd H3 D (.lst (vs ++ [v]))) := Imm.mut q2' id
      rw [List.take_succ, hc']
      exact ((q3.mono (T := cl.has) (Same.imm s3)).mono im).snoc (hv.mono im)
    · rintro H2 ⟨q1, vs, q2, q3⟩
      rw [hlen, List.take_of_length_le (Nat.le_refl _)] at q3
      have hl := q3.length
      refine ⟨D, vs, rfl, .inl ⟨SqL.of q2, fun t2 nt2 => ?_⟩⟩
      have h1 : upd H2 t2 (.tup vs) t1 = some (.tup [.str (word s)]) := Same.new nt2 _ _ (q1 _ _ upd_same)
      have s2 : Same H (upd H2 t2 (.tup vs)) := ((Same.new nt1).trans q1).trans (Same.new nt2)
      have q4 : IsTs (upd H2 t2 (.tup vs)) vs cs := q3.mono (T := cl.has) (Imm.new nt2)
      refine ⟨t1, t2, _, _, rfl, rfl, SqT.of h1, SqT.of upd_same, by simp, line_ge (by simp; omega), fun e => ?_, fun _ t3 nt3 => ?_⟩
      · subst e
        have q4' := q4
        cases q4'
        exact q _ _ s2 (.grp h1 .nil)
      · exact q _ _ (s2.trans (Same.new nt3)) (.grp upd_same (q4.mono (T := cl.has) (Imm.new nt3)))
theorem disp_told (T : TTold K mg cl) : ∀ n : Nat, DispAt P w K mg base CX0 cl.has "told" (n + 1) ["self"] (spTold cl n)
  | 0 => by
    refine ⟨fun C hC => ?_⟩
    have vac : ∀ C vs H Q E, spTold cl 0 C vs H Q E → False := by
      rintro C vs H Q E ⟨a, dx, fs, c, rfl, ha, p, hd, _⟩
      exact absurd c.depth_pos (by omega)
    rcases hC with rfl | rfl | rfl | rfl | rfl
    · exact ok_told_fx T 0
    · exact ok_told_ct T 0
    all_goals
      refine methAt_ok (T.parts.cls (by simp [Cl.has])) (by first | exact T.m_told_tn | exact T.m_told_sr | exact T.m_told_br) (by first | exact sc_Turned_told | exact sc_Group_told) (fun vs H Q E h => (vac _ _ _ _ _ h).elim) (fun f cdv A outer s H vs Q E hr h => (vac _ _ _ _ _ h).elim)
  | n + 1 => by
    have ih := disp_told T n
    refine ⟨fun C hC => ?_⟩
    rcases hC with rfl | rfl | rfl | rfl | rfl
    · obtain ⟨f, fd, h1, h2, h3, h4⟩ := ok_told_fx (P := P) (w := w) (base := base) T (n + 1)
      exact ⟨f, fd, h1, h2, h3, h4.mono (by omega)⟩
    · obtain ⟨f, fd, h1, h2, h3, h4⟩ := ok_told_ct (P := P) (w := w) (base := base) T (n + 1)
      exact ⟨f, fd, h1, h2, h3, h4.mono (by omega)⟩
    · exact ok_told_tn T ih
    · exact ok_told_gr T ih (by omega) true T.m_told_sr
    · exact ok_told_gr T ih (by omega) false T.m_told_br
end

/-! ## parts: made -/
abbrev s_Fixed___init__ : Stmt := inClass (top 19) 0
theorem sc_Fixed___init__ : FnScope ["self", "value"] ["self", "value"] (defScope s_Fixed___init__) := ⟨rfl, rfl, rfl, by decide +kernel, rfl, by decide +kernel, by decide +kernel⟩
abbrev s_Contact___init__ : Stmt := inClass (top 20) 0
theorem sc_Contact___init__ : FnScope ["self", "name"] ["self", "name"] (defScope s_Contact___init__) := ⟨rfl, rfl, rfl, by decide +kernel, rfl, by decide +kernel, by decide +kernel⟩
abbrev s_Turned___init__ : Stmt := inClass (top 21) 0
theorem sc_Turned___init__ : FnScope ["self", "part"] ["self", "part"] (defScope s_Turned___init__) := ⟨rfl, rfl, rfl, by decide +kernel, rfl, by decide +kernel, by decide +kernel⟩
abbrev s_Group___init__ : Stmt := inClass (top 22) 0
theorem sc_Group___init__ : FnScope ["self", "parts"] ["self", "parts"] (defScope s_Group___init__) := ⟨rfl, rfl, rfl, by decide +kernel, rfl, by decide +kernel, by decide +kernel⟩
structure TMake (K : PySem.W.Frag) (mg : Str → Option Value) (cl : Cl) : Prop where
  names : TNames K mg
  parts : TParts K mg cl
  i_fx : MethAt K cl.fx "__init__" "Fixed.__init__" s_Fixed___init__ ["self", "value"]
  i_ct : MethAt K cl.ct "__init__" "Contact.__init__" s_Contact___init__ ["self", "name"]
  i_tn : MethAt K cl.tn "__init__" "Turned.__init__" s_Turned___init__ ["self", "part"]
  i_sr : MethAt K cl.sr "__init__" "Group.__init__" s_Group___init__ ["self", "parts"]
  i_br : MethAt K cl.br "__init__" "Group.__init__" s_Group___init__ ["self", "parts"]
  z_len : mg "len" = none
  z_tuple : mg "tuple" = none
section
variable {P : Program} {w : World} {K : PySem.W.Frag} {mg : Str → Option Value} {base : Heap} {cl : Cl}
/-- a new instance and its dict: what was tracked stays -/
theorem same_make {H : Hp} {x dx C : Addr} {fs : List (Str × V)} (nx : H x = none) (nd : H dx = none) : Same H (upd (upd H dx (.own x)) x (.ins C dx fs)) := fun b o e => by
  rw [upd_ne (ne_of_none e nx), upd_ne (ne_of_none e nd)]
  exact e
def spInitFx (cl : Cl) : Sp := fun vs H Q _ => ∃ (x dx : Addr) (b : Bool), vs = [.ref x, .bl b] ∧ H x = some (.ins cl.fx dx []) ∧ ∀ H' : Hp, H' x = some (.ins cl.fx dx [("value", .bl b)]) → But x H H' → Q .non H'
def spInitCt (cl : Cl) : Sp := fun vs H Q _ => ∃ (x dx : Addr) (n : Str), vs = [.ref x, .str n] ∧ H x = some (.ins cl.ct dx []) ∧ n.length ≤ sizeLine ∧ isName n = true ∧ ∀ H' : Hp, H' x = some (.ins cl.ct dx [("name", .str n)]) → But x H H' → Q .non H'
def spInitTn (cl : Cl) : Sp := fun vs H Q _ => ∃ (H0 : Hp) (x dx : Addr) (v : V) (c : Cond), vs = [.ref x, v] ∧ H x = some (.ins cl.tn dx []) ∧ Same H0 H ∧ H0 x = none ∧ IsP cl H0 v c ∧ c.size ≤ 59 ∧ c.depth ≤ 19 ∧
  ∀ H' : Hp, Same H0 H' → IsP cl H' (.ref x) (.not c) → Q .non H'
def spInitGr (cl : Cl) (s : Bool) : Sp := fun vs H Q _ => ∃ (H0 : Hp) (x dx l : Addr) (ws : List V) (cs : List Cond), vs = [.ref x, .ref l] ∧ H x = some (.ins (cl.gr s) dx []) ∧ Same H0 H ∧ H0 x = none ∧ H0 l = some (.lst ws) ∧ IsPs cl H0 ws cs ∧ 2 ≤ cs.length ∧ Cond.sizes cs ≤ 59 ∧ Cond.depths cs ≤ 19 ∧
  ∀ H' : Hp, Same H0 H' → IsP cl H' (.ref x) (.grp s cs) → Q .non H'
theorem ok_init_fx (T : TMake K mg cl) : MakAt P w K mg base CX0 "Fixed" cl.fx 1 ["self", "value"] (spInitFx cl) := by
  refine makAt_of T.parts.c_Fixed (methAt_ok T.parts.c_Fixed.cl T.i_fx sc_Fixed___init__ (fun vs H Q E h => ?_) (fun f cdv A outer s H vs Q E hr h => ?_))
  · obtain ⟨x, dx, b, rfl, _⟩ := h; rfl
  · obtain ⟨x, dx, b, rfl, hx, q⟩ := h
    refine ⟨_, (pss_one (ps_fld (pv 0) (pv 1) rfl)), ?_⟩
    refine ⟨_, rfl, _, rfl, x, _, dx, [], rfl, hx, T.parts.c_Fixed.cl, T.parts.nv_fx, (by show 0 < 1000; decide), ?_⟩
    exact q _ upd_same But.upd
theorem ok_init_ct (T : TMake K mg cl) : MakAt P w K mg base CX0 "Contact" cl.ct 3 ["self", "name"] (spInitCt cl) := by
  have G_is_name : FnAt P w K mg base CX0 "is_name" 2 _ spIsName := ok_is_name T.names
  refine makAt_of T.parts.c_Contact (methAt_ok T.parts.c_Contact.cl T.i_ct sc_Contact___init__ (fun vs H Q E h => ?_) (fun f cdv A outer s H vs Q E hr h => ?_))
  · obtain ⟨x, dx, n, rfl, _⟩ := h; rfl
  · obtain ⟨x, dx, n, rfl, hx, hl, hn, q⟩ := h
    refine ⟨_, (pss_cons (ps_if (pt_not (pt_val (pe_callF G_is_name hr pass0 (pa_cons (pv 1) pa_nil)))) (pss_one ps_never) pss_nil)
        (pss_one (ps_fld (pv 0) (pv 1) rfl))), ?_⟩
    refine ⟨_, rfl, n, rfl, hl, ?_⟩
    rw [hn]
    refine ⟨true, rfl, iteF ?_⟩
    refine ⟨_, rfl, _, rfl, x, _, dx, [], rfl, hx, T.parts.c_Contact.cl, T.parts.nn_ct, (by show 0 < 1000; decide), ?_⟩
    exact q _ upd_same But.upd
theorem ok_init_tn (T : TMake K mg cl) : MakAt P w K mg base CX0 "Turned" cl.tn 23 ["self", "part"] (spInitTn cl) := by
  have G_bounded : DispAt P w K mg base CX0 (fun C => C = cl.tn ∨ C = cl.sr ∨ C = cl.br) "bounded" 22 ["self"] (spBounded cl) := disp_bounded T.parts
  refine makAt_of T.parts.c_Turned (methAt_ok T.parts.c_Turned.cl T.i_tn sc_Turned___init__ (fun vs H Q E h => ?_) (fun f cdv A outer s H vs Q E hr h => ?_))
  · obtain ⟨H0, x, dx, v, c, rfl, _⟩ := h; rfl
  · obtain ⟨H0, x, dx, v, c, rfl, hx, s0, n0, p, hz, hd, q⟩ := h
    refine ⟨_, (pss_cons (ps_fld (pv 0) (pv 1) rfl)
        (pss_one (ps_expr (pe_methD0 G_bounded hr pass0 (pv 0))))), ?_⟩
    refine ⟨_, rfl, _, rfl, x, _, dx, [], rfl, hx, T.parts.c_Turned.cl, T.parts.np_tn, (by show 0 < 1000; decide), ?_⟩
    have s1 : Same H0 (upd H x (.ins cl.tn dx (putF "part" v []))) := Same.mut s0 n0
    have p1 : IsP cl (upd H x (.ins cl.tn dx (putF "part" v []))) (.ref x) (.not c) := .not upd_same (p.mono (Same.imm s1))
    refine ⟨_, rfl, x, _, dx, _, rfl, upd_same, .inl rfl, lk1 (by decide +kernel), x, dx, _, .not c, rfl, upd_same, p1, ?_, ?_, fun H2 s2 => ?_⟩
    · rw [Cond.depth]; omega
    · rw [Cond.size]; omega
    · exact q _ (s1.trans s2) (p1.mono (Same.imm s2))
theorem ok_init_gr (T : TMake K mg cl) (s : Bool) {nm : Str} (c : ClsAt K mg nm (cl.gr s)) (D : MethAt K (cl.gr s) "__init__" "Group.__init__" s_Group___init__ ["self", "parts"]) : MakAt P w K mg base CX0 nm (cl.gr s) 23 ["self", "parts"] (spInitGr cl s) := by
  have G_bounded : DispAt P w K mg base CX0 (fun C => C = cl.tn ∨ C = cl.sr ∨ C = cl.br) "bounded" 22 ["self"] (spBounded cl) := disp_bounded T.parts
  refine makAt_of c (methAt_ok c.cl D sc_Group___init__ (fun vs H Q E h => ?_) (fun f cdv A outer st H vs Q E hr h => ?_))
  · obtain ⟨H0, x, dx, l, ws, cs, rfl, _⟩ := h; rfl
  · obtain ⟨H0, x, dx, l, ws, cs, rfl, hx, s0, n0, hl, ps, h2, hz, hd, q⟩ := h
    have hlen := ps.length
    refine ⟨_, (pss_cons (ps_if (pt_cmpR op_lt (pe_callB call_len_seq (by rfl) T.z_len PySem.boot_len (pa_cons (pv 1) pa_nil)) pe_int (nomark _)) (pss_one ps_never) pss_nil)
        (pss_cons (ps_fld (pv 0) (pe_callTy call_tuple_of (by rfl) T.z_tuple (show PySem.bootBuiltins "tuple" = some (.type "tuple") by decide +kernel) (pa_cons (pv 1) pa_nil)) rfl)
        (pss_one (ps_expr (pe_methD0 G_bounded hr pass0 (pv 0)))))), ?_⟩
    refine ⟨_, rfl, l, ws, rfl, .inl (SqL.of (s0 _ _ hl)), _, _, rfl, rfl, _, rfl, ?_⟩
    rw [decide_eq_false (show ¬ ((ws.length : Int) < 2) by omega)]
    refine iteF ⟨_, rfl, l, ws, rfl, .inl ⟨SqL.of (s0 _ _ hl), fun t nt => ?_⟩⟩
    have hx1 : upd H t (.tup ws) x = some (.ins (cl.gr s) dx []) := Same.new nt _ _ hx
    have ntx : t ≠ x := (ne_of_none hx nt).symm
    refine ⟨_, rfl, x, _, dx, [], rfl, hx1, T.parts.cls (cl.has_gr s), T.parts.np s, (by show 0 < 1000; decide), ?_⟩
    have s1 : Same H0 (upd (upd H t (.tup ws)) x (.ins (cl.gr s) dx (putF "parts" (.ref t) []))) := Same.mut (s0.trans (Same.new nt)) n0
    have p1 : IsP cl (upd (upd H t (.tup ws)) x (.ins (cl.gr s) dx (putF "parts" (.ref t) []))) (.ref x) (.grp s cs) := .grp upd_same (by rw [upd_ne ntx, upd_same]) (ps.mono (Same.imm s1))
    refine ⟨_, rfl, x, _, dx, _, rfl, upd_same, (by cases s; exact .inr (.inr rfl); exact .inr (.inl rfl)), lk1 (by decide +kernel), x, dx, _, .grp s cs, rfl, upd_same, p1, ?_, ?_, fun H2 s2 => ?_⟩
    · rw [Cond.depth]; omega
    · rw [Cond.size]; omega
    · exact q _ (s1.trans s2) (p1.mono (Same.imm s2))
/-! ### what making asks -/
theorem mk_fx {H : Hp} {b : Bool} {Q : VK} {E : XK} (k : ∀ H' x, Same H H' → IsP cl H' (.ref x) (.fixed b) → Q (.ref x) H') : ∀ x dx, H x = none → H dx = none → dx ≠ x → spInitFx cl (.ref x :: ([.bl b] ++ [])) (upd (upd H dx (.own x)) x (.ins cl.fx dx [])) (fun v H' => v = .non ∧ Q (.ref x) H') E :=
  fun x dx nx nd ne => ⟨x, dx, b, rfl, upd_same, fun H' h1 h2 => ⟨rfl, k H' x (fun c o e => h2 c o (same_make nx nd c o e) (ne_of_none e nx)) (.fixed h1)⟩⟩
theorem mk_ct {H : Hp} {n : Str} {Q : VK} {E : XK} (hl : n.length ≤ sizeLine) (hn : isName n = true) (k : ∀ H' x, Same H H' → IsP cl H' (.ref x) (.contact n) → Q (.ref x) H') : ∀ x dx, H x = none → H dx = none → dx ≠ x → spInitCt cl (.ref x :: ([.str n] ++ [])) (upd (upd H dx (.own x)) x (.ins cl.ct dx [])) (fun v H' => v = .non ∧ Q (.ref x) H') E :=
  fun x dx nx nd ne => ⟨x, dx, n, rfl, upd_same, hl, hn, fun H' h1 h2 => ⟨rfl, k H' x (fun c o e => h2 c o (same_make nx nd c o e) (ne_of_none e nx)) (.contact h1)⟩⟩
theorem mk_tn {H : Hp} {v : V} {c : Cond} {Q : VK} {E : XK} (p : IsP cl H v c) (hz : c.size ≤ 59) (hd : c.depth ≤ 19) (k : ∀ H' x, Same H H' → IsP cl H' (.ref x) (.not c) → Q (.ref x) H') : ∀ x dx, H x = none → H dx = none → dx ≠ x → spInitTn cl (.ref x :: ([v] ++ [])) (upd (upd H dx (.own x)) x (.ins cl.tn dx [])) (fun v H' => v = .non ∧ Q (.ref x) H') E :=
  fun x dx nx nd ne => ⟨H, x, dx, v, c, rfl, upd_same, same_make nx nd, nx, p, hz, hd, fun H' h1 h2 => ⟨rfl, k H' x h1 h2⟩⟩
theorem mk_gr {H : Hp} {s : Bool} {l : Addr} {ws : List V} {cs : List Cond} {Q : VK} {E : XK} (hl : H l = some (.lst ws)) (p : IsPs cl H ws cs) (h2 : 2 ≤ cs.length) (hz : Cond.sizes cs ≤ 59) (hd : Cond.depths cs ≤ 19) (k : ∀ H' x, Same H H' → IsP cl H' (.ref x) (.grp s cs) → Q (.ref x) H') :
    ∀ x dx, H x = none → H dx = none → dx ≠ x → spInitGr cl s (.ref x :: ([.ref l] ++ [])) (upd (upd H dx (.own x)) x (.ins (cl.gr s) dx [])) (fun v H' => v = .non ∧ Q (.ref x) H') E :=
  fun x dx nx nd ne => ⟨H, x, dx, l, ws, cs, rfl, upd_same, same_make nx nd, nx, hl, p, h2, hz, hd, fun H' h1 h2 => ⟨rfl, k H' x h1 h2⟩⟩
end

/-! ## part_of -/
abbrev s_single : Stmt := top 26
theorem sc_single : FnScope ["told"] ["told"] (defScope s_single) := ⟨rfl, rfl, rfl, by decide +kernel, rfl, by decide +kernel, by decide +kernel⟩
abbrev s_joined : Stmt := top 27
theorem sc_joined : FnScope ["kind", "parts"] ["kind", "parts"] (defScope s_joined) := ⟨rfl, rfl, rfl, by decide +kernel, rfl, by decide +kernel, by decide +kernel⟩
abbrev s_part_of : Stmt := top 28
theorem sc_part_of : FnScope ["told", "opened", "found", "one", "parts", "is_single"] ["told"] (defScope s_part_of) := ⟨rfl, rfl, rfl, by decide +kernel, rfl, by decide +kernel, by decide +kernel⟩
structure TPartOf (K : PySem.W.Frag) (mg : Str → Option Value) (cl : Cl) : Prop where
  make : TMake K mg cl
  d_single : DefAt K mg "single" s_single ["told"]
  d_joined : DefAt K mg "joined" s_joined ["kind", "parts"]
  d_part_of : DefAt K mg "part_of" s_part_of ["told"]
  z_len : mg "len" = none
mutual
/-- names are names, groups have two parts or more -/
def Cond.ok : Cond → Bool
  | .fixed _ => true
  | .contact n => isName n
  | .not c => c.ok
  | .grp _ cs => decide (2 ≤ cs.length) && Cond.oks cs
def Cond.oks : List Cond → Bool
  | [] => true
  | c :: cs => c.ok && Cond.oks cs
end
theorem Cond.oks_mem : ∀ {cs : List Cond} {c : Cond}, Cond.oks cs = true → c ∈ cs → c.ok = true
  | x :: cs, c, h, m => by
    rw [Cond.oks, Bool.and_eq_true] at h
    rcases List.mem_cons.mp m with rfl | m
    · exact h.1
    · exact Cond.oks_mem h.2 m
theorem Cond.ok_kids {c : Cond} (h : c.ok = true) : Cond.oks c.kids = true := by
  cases c with
  | fixed b => rfl
  | contact n => rfl
  | not c => simpa [Cond.kids, Cond.oks, Cond.ok] using h
  | grp s cs =>
    rw [Cond.ok, Bool.and_eq_true] at h
    exact h.2
theorem isName_len {z : Str} (h : isName z = true) : z.length ≤ 8 := by
  unfold isName at h
  simp only [Bool.and_eq_true, decide_eq_true_eq] at h
  exact h.1.2
def Cond.single : Cond → Bool
  | .fixed _ => true
  | .contact _ => true
  | _ => false

section
variable {P : Program} {w : World} {K : PySem.W.Frag} {mg : Str → Option Value} {base : Heap} {cl : Cl}
def spSingle (cl : Cl) : Sp := fun vs H Q _ => ∃ (v : V) (c : Cond), vs = [v] ∧ IsT H v c ∧ c.single = true ∧ c.ok = true ∧ ∀ (H' : Hp) (x : Addr), Same H H' → IsP cl H' (.ref x) c → Q (.ref x) H'
theorem ok_single (T : TPartOf K mg cl) : FnAt P w K mg base CX0 "single" 5 ["told"] (spSingle cl) := by
  have M_Fixed : MakAt P w K mg base CX0 "Fixed" cl.fx 1 ["self", "value"] (spInitFx cl) := ok_init_fx T.make
  have M_Contact : MakAt P w K mg base CX0 "Contact" cl.ct 3 ["self", "name"] (spInitCt cl) := ok_init_ct T.make
  refine fnAt_ok T.d_single sc_single (fun vs H Q E h => ?_) (fun f cdv A outer s H vs Q E hr h => ?_)
  · obtain ⟨v, c, rfl, _⟩ := h; rfl
  · obtain ⟨v, c, rfl, ht, hs, hok, k⟩ := h
    refine ⟨_, (pss_one (ps_ret (pe_ifExp (pt_cmpR op_eq (pe_ix ix_tup (pv 0) pe_int (fun _ _ => rfl)) pe_str (nomark _)) (pe_makeF M_Fixed hr pass0 (pa_cons (pe_ix ix_tup (pv 0) pe_int (fun _ _ => rfl)) pa_nil)) (pe_makeF M_Contact hr pass0 (pa_cons (pe_ix ix_tup (pv 0) pe_int (fun _ _ => rfl)) pa_nil))))), ?_⟩
    cases ht with
    | @fixed t b h =>
      refine ⟨_, rfl, t, _, 0, .str "fixed", rfl, rfl, SqT.of h, rfl, rfl, _, rfl, ?_⟩
      rw [decide_eq_true rfl]
      refine iteT ⟨_, rfl, t, _, 1, .bl b, rfl, rfl, SqT.of h, rfl, ?_⟩
      exact mk_fx fun H' x s' p => k H' x s' p
    | @contact t n h =>
      refine ⟨_, rfl, t, _, 0, .str "contact", rfl, rfl, SqT.of h, rfl, rfl, _, rfl, ?_⟩
      rw [decide_eq_false (show ¬ (V.str "contact" = V.str "fixed") by decide +kernel)]
      refine iteF ⟨_, rfl, t, _, 1, .str n, rfl, rfl, SqT.of h, rfl, ?_⟩
      exact mk_ct (line_ge (Nat.le_trans (isName_len hok) (by decide))) hok fun H' x s' p => k H' x s' p
    | not h p => cases hs
    | grp h p => cases hs
def kindS : Cond → Str
  | .not _ => "not"
  | .grp s _ => word s
  | .fixed _ => "fixed"
  | .contact _ => "contact"
def spJoined (cl : Cl) : Sp := fun vs H Q _ => ∃ (l : Addr) (ws : List V) (c : Cond), vs = [.str (kindS c), .ref l] ∧ H l = some (.lst ws) ∧ c.single = false ∧ c.ok = true ∧ IsPs cl H ws c.kids ∧ c.size ≤ 60 ∧ c.depth ≤ 20 ∧
  ∀ (H' : Hp) (x : Addr), Same H H' → IsP cl H' (.ref x) c → Q (.ref x) H'
theorem ok_joined (T : TPartOf K mg cl) : FnAt P w K mg base CX0 "joined" 25 ["kind", "parts"] (spJoined cl) := by
  have M_Turned : MakAt P w K mg base CX0 "Turned" cl.tn 23 ["self", "part"] (spInitTn cl) := ok_init_tn T.make
  have M_Series : MakAt P w K mg base CX0 "Series" cl.sr 23 ["self", "parts"] (spInitGr cl true) := ok_init_gr T.make true T.make.parts.c_Series T.make.i_sr
  have M_Branch : MakAt P w K mg base CX0 "Branch" cl.br 23 ["self", "parts"] (spInitGr cl false) := ok_init_gr T.make false T.make.parts.c_Branch T.make.i_br
  refine fnAt_ok T.d_joined sc_joined (fun vs H Q E h => ?_) (fun f cdv A outer s H vs Q E hr h => ?_)
  · obtain ⟨l, ws, c, rfl, _⟩ := h; rfl
  · obtain ⟨l, ws, c, rfl, hl, hs, hok, ps, hz, hd, k⟩ := h
    refine ⟨_, (pss_cons (ps_if (pt_cmpR op_eq (pv 0) pe_str (nomark _)) (pss_one (ps_ret (pe_makeF M_Turned hr pass0 (pa_cons (pe_ix ix_list (pv 1) pe_int (fun _ _ => rfl)) pa_nil)))) pss_nil)
        (pss_cons (ps_if (pt_cmpR op_eq (pv 0) pe_str (nomark _)) (pss_one (ps_ret (pe_makeF M_Series hr pass0 (pa_cons (pv 1) pa_nil)))) pss_nil)
        (pss_one (ps_ret (pe_makeF M_Branch hr pass0 (pa_cons (pv 1) pa_nil)))))), ?_⟩
    cases c with
    | fixed b => cases hs
    | contact n => cases hs
    | not c =>
      rw [Cond.size] at hz
      rw [Cond.depth] at hd
      obtain ⟨v, rfl, p⟩ : ∃ v, ws = [v] ∧ IsP cl H v c := by
        cases ps with
        | cons p t => cases t; exact ⟨_, rfl, p⟩
      refine ⟨_, rfl, rfl, _, rfl, ?_⟩
      rw [decide_eq_true (show V.str (kindS (.not c)) = V.str "not" from rfl)]
      refine iteT ⟨_, rfl, l, _, 0, v, rfl, rfl, SqL.of hl, rfl, ?_⟩
      exact mk_tn p (by omega) (by omega) fun H' x s' p => k H' x s' p
    | grp s cs =>
      rw [Cond.size] at hz
      rw [Cond.depth] at hd
      rw [Cond.ok, Bool.and_eq_true, decide_eq_true_eq] at hok
      refine ⟨_, rfl, rfl, _, rfl, ?_⟩
      cases s with
      | true =>
        rw [decide_eq_false (show ¬ (V.str (kindS (.grp true cs)) = V.str "not") by show ¬ (V.str (Str.ofString "and") = V.str "not"); decide +kernel)]
        refine iteF ⟨_, rfl, rfl, _, rfl, ?_⟩
        rw [decide_eq_true (show V.str (kindS (.grp true cs)) = V.str "and" from rfl)]
        refine iteT ⟨_, rfl, ?_⟩
        exact mk_gr (cs := cs) hl ps hok.1 (by omega) (by omega) fun H' x s' p => k H' x s' p
      | false =>
        rw [decide_eq_false (show ¬ (V.str (kindS (.grp false cs)) = V.str "not") by show ¬ (V.str (Str.ofString "or") = V.str "not"); decide +kernel)]
        refine iteF ⟨_, rfl, rfl, _, rfl, ?_⟩
        rw [decide_eq_false (show ¬ (V.str (kindS (.grp false cs)) = V.str "and") by show ¬ (V.str (Str.ofString "or") = V.str "and"); decide +kernel)]
        refine iteF ⟨_, rfl, ?_⟩
        exact mk_gr (cs := cs) hl ps hok.1 (by omega) (by omega) fun H' x s' p => k H' x s' p
/-! ### the stack -/
/-- what is open: a condition, its parts that are made, the list that holds them -/
structure Frame where
  c : Cond
  ds : List Cond
  pl : Addr
structure Fr1 (cl : Cl) (H0 H : Hp) (v : V) (f : Frame) : Prop where
  ex : ∃ (tp t : Addr) (ws : List V), v = .ref tp ∧ H tp = some (.tup [.ref t, .ref f.pl]) ∧ IsT H (.ref t) f.c ∧ H f.pl = some (.lst ws) ∧ IsPs cl H ws f.ds
  new : H0 f.pl = none
  pre : f.ds = f.c.kids.take f.ds.length
  sz : f.c.size ≤ 60
  dp : f.c.depth ≤ 20
  ok : f.c.ok = true
inductive Stk (cl : Cl) (H0 H : Hp) (root : Cond) : List V → List Frame → Prop
  | one {v : V} {f : Frame} (h : Fr1 cl H0 H v f) (hr : f.c = root) : Stk cl H0 H root [v] [f]
  | push {v : V} {vs : List V} {f g : Frame} {r : List Frame} (s : Stk cl H0 H root vs (g :: r)) (h : Fr1 cl H0 H v f) (hk : g.c.kids[g.ds.length]? = some f.c) (ne : ∀ e ∈ g :: r, e.pl ≠ f.pl) : Stk cl H0 H root (vs ++ [v]) (f :: g :: r)
theorem Fr1.keep {H0 H H' : Hp} {v : V} {f : Frame} (k : Imm cl.has H H') (kl : ∀ ws, H f.pl = some (.lst ws) → H' f.pl = some (.lst ws)) (h : Fr1 cl H0 H v f) : Fr1 cl H0 H' v f := by
  obtain ⟨⟨tp, t, ws, e, h1, h2, h3, h4⟩, a, b, c, d, g⟩ := h
  exact ⟨⟨tp, t, ws, e, k _ _ h1 trivial, h2.mono k, kl _ h3, h4.mono k⟩, a, b, c, d, g⟩
theorem Stk.keep {H0 H H' : Hp} {root : Cond} (k : Imm cl.has H H') : ∀ {vs : List V} {fr : List Frame}, (∀ f ∈ fr, ∀ ws, H f.pl = some (.lst ws) → H' f.pl = some (.lst ws)) → Stk cl H0 H root vs fr → Stk cl H0 H' root vs fr
  | _, _, kl, .one h hr => .one (h.keep k (kl _ (List.mem_singleton.mpr rfl))) hr
  | _, _, kl, .push s h hk ne => .push (Stk.keep k (fun f hf => kl f (List.mem_cons_of_mem _ hf)) s) (h.keep k (kl _ List.mem_cons_self)) hk ne
theorem Stk.ne {H0 H : Hp} {root : Cond} {vs : List V} {fr : List Frame} (s : Stk cl H0 H root vs fr) : fr ≠ [] ∧ vs ≠ [] := by
  cases s <;> simp
theorem Stk.len {H0 H : Hp} {root : Cond} : ∀ {vs : List V} {fr : List Frame}, Stk cl H0 H root vs fr → vs.length = fr.length
  | _, _, .one _ _ => rfl
  | _, _, .push s _ _ _ => by rw [List.length_append, Stk.len s]; rfl
/-- the deeper, the smaller -/
theorem Stk.deep {H0 H : Hp} {root : Cond} : ∀ {vs : List V} {fr : List Frame} {f : Frame} {r : List Frame}, Stk cl H0 H root vs fr → fr = f :: r → r.length + f.c.depth ≤ root.depth
  | _, _, _, _, .one h hr, e => by
    cases e
    rw [hr]
    simp
  | _, _, _, _, .push (g := g) s h hk ne, e => by
    cases e
    have ih := Stk.deep s rfl
    have h1 := Cond.depth_mem (List.mem_of_getElem? hk)
    have h2 := g.c.depth_kids
    rw [List.length_cons]
    omega
theorem Stk.lists {H0 H : Hp} {root : Cond} : ∀ {vs : List V} {fr : List Frame}, Stk cl H0 H root vs fr → ∀ f ∈ fr, ∃ ws, H f.pl = some (.lst ws)
  | _, _, .one h hr, f, hf => by
    obtain ⟨⟨tp, t, ws, e, h1, h2, h3, h4⟩, _⟩ := h
    rw [List.mem_singleton.mp hf]
    exact ⟨_, h3⟩
  | _, _, .push s h hk ne, f, hf => by
    rcases List.mem_cons.mp hf with rfl | hf
    · obtain ⟨⟨tp, t, ws, e, h1, h2, h3, h4⟩, _⟩ := h
      exact ⟨_, h3⟩
    · exact Stk.lists s f hf
/-- the top one is another one -/
theorem Stk.swap {H0 H H' : Hp} {root : Cond} {vs vs1 : List V} {v1 : V} {g g' : Frame} {r : List Frame} (s : Stk cl H0 H root vs (g :: r)) (k : Imm cl.has H H') (kl : ∀ e : Frame, e.pl ≠ g.pl → ∀ ws, H e.pl = some (.lst ws) → H' e.pl = some (.lst ws)) (ev : vs = vs1 ++ [v1]) (h : Fr1 cl H0 H' v1 g') (ec : g'.c = g.c) (ep : g'.pl = g.pl) : Stk cl H0 H' root vs (g' :: r) := by
  cases s with
  | @one v _ h0 hr =>
    have e1 : vs1 = [] ∧ v = v1 := by
      cases vs1 with
      | nil => exact ⟨rfl, by simpa using ev⟩
      | cons a b => simp at ev
    obtain ⟨rfl, rfl⟩ := e1
    exact .one h (ec.trans hr)
  | @push v vs0 _ g0 r0 s h0 hk ne =>
    have e1 := List.append_inj_left' ev rfl
    have e2 : v = v1 := by
      have := List.append_inj_right' ev rfl
      simpa using this
    subst e1 e2
    exact .push (s.keep k fun e he ws hw => kl e (ne e he) ws hw) h (by rw [ec]; exact hk) (fun e he => by rw [ep]; exact ne e he)
/-- what is left to do -/
def lows : List Frame → Nat
  | [] => 0
  | g :: r => 1 + 2 * Cond.sizes (g.c.kids.drop (g.ds.length + 1)) + lows r
def mu : List Frame → Nat
  | [] => 0
  | f :: r => 1 + 2 * Cond.sizes (f.c.kids.drop f.ds.length) + lows r
theorem mu_push {f g : Frame} {r : List Frame} (hk : g.c.kids[g.ds.length]? = some f.c) (hd : f.ds = []) : mu (f :: g :: r) < mu (g :: r) := by
  have e : g.c.kids.drop g.ds.length = f.c :: g.c.kids.drop (g.ds.length + 1) := by
    obtain ⟨h1, h2⟩ := List.getElem?_eq_some_iff.mp hk
    rw [List.drop_eq_getElem_cons h1, h2]
  have e2 := f.c.size_kids
  show 1 + 2 * Cond.sizes (f.c.kids.drop f.ds.length) + (1 + 2 * Cond.sizes (g.c.kids.drop (g.ds.length + 1)) + lows r) < 1 + 2 * Cond.sizes (g.c.kids.drop g.ds.length) + lows r
  rw [e, Cond.sizes, hd, List.length_nil, List.drop_zero]
  omega
theorem mu_pop {f g g' : Frame} {r : List Frame} (hc : g'.c = g.c) (hl : g'.ds.length = g.ds.length + 1) : mu (g' :: r) < mu (f :: g :: r) := by
  show 1 + 2 * Cond.sizes (g'.c.kids.drop g'.ds.length) + lows r < 1 + 2 * Cond.sizes (f.c.kids.drop f.ds.length) + (1 + 2 * Cond.sizes (g.c.kids.drop (g.ds.length + 1)) + lows r)
  rw [hc, hl]
  omega
theorem IsT.shape {H : Hp} {t : Addr} {c : Cond} (p : IsT H (.ref t) c) : ∃ rest, H t = some (.tup (.str (kindS c) :: rest)) ∧ (c.single = false → IsTs H rest c.kids) := by
  cases p with
  | fixed h => exact ⟨_, h, fun e => nomatch e⟩
  | contact h => exact ⟨_, h, fun e => nomatch e⟩
  | not h p => exact ⟨_, h, fun _ => .cons p .nil⟩
  | grp h p => exact ⟨_, h, fun _ => p⟩
theorem single_in (c : Cond) : inV (.str (kindS c)) [.str "fixed", .str "contact"] = c.single := by
  cases c with
  | fixed b => show inV (.str (Str.ofString "fixed")) [.str "fixed", .str "contact"] = true; decide +kernel
  | contact b => show inV (.str (Str.ofString "contact")) [.str "fixed", .str "contact"] = true; decide +kernel
  | not b => show inV (.str (Str.ofString "not")) [.str "fixed", .str "contact"] = false; decide +kernel
  | grp s cs =>
    cases s
    · show inV (.str (Str.ofString "or")) [.str "fixed", .str "contact"] = false; decide +kernel
    · show inV (.str (Str.ofString "and")) [.str "fixed", .str "contact"] = false; decide +kernel
theorem single_kids {c : Cond} (h : c.single = true) : c.kids = [] := by
  cases c with
  | fixed b => rfl
  | contact b => rfl
  | not b => cases h
  | grp s cs => cases h
def spPartOf (cl : Cl) : Sp := fun vs H Q _ => ∃ (v : V) (c : Cond), vs = [v] ∧ IsT H v c ∧ c.ok = true ∧ c.size ≤ 60 ∧ c.depth ≤ 20 ∧ ∀ (H' : Hp) (x : Addr), Same H H' → IsP cl H' (.ref x) c → Q (.ref x) H'
/-- the invariant of the loop -/
def PInv (cl : Cl) (H0 : Hp) (told : V) (op : Addr) (root : Cond) (m : Nat) (σ : L2.St) (H : Hp) : Prop :=
  ∃ (vs : List V) (fr : List Frame) (x : V) (o1 o2 o3 : Option V), σ = [some told, some (.ref op), some x, o1, o2, o3] ∧ H op = some (.lst vs) ∧ H0 op = none ∧ Same H0 H ∧ m = mu fr ∧
    ((fr = [] ∧ vs = [] ∧ ∃ a, x = .ref a ∧ IsP cl H x root) ∨ (Stk cl H0 H root vs fr ∧ ∀ f ∈ fr, f.pl ≠ op))
theorem ok_part_of (T : TPartOf K mg cl) : FnAt P w K mg base CX0 "part_of" 26 ["told"] (spPartOf cl) := by
  have G_single : FnAt P w K mg base CX0 "single" 5 _ (spSingle cl) := ok_single T
  have G_joined : FnAt P w K mg base CX0 "joined" 25 _ (spJoined cl) := ok_joined T
  refine fnAt_ok T.d_part_of sc_part_of (fun vs H Q E h => ?_) (fun f cdv A outer s H vs Q E hr h => ?_)
  · obtain ⟨v, c, rfl, _⟩ := h; rfl
  · obtain ⟨v, root, rfl, ht, hok, hz, hd, k⟩ := h
    obtain ⟨t0, x0, rfl, ht0⟩ := ht.ref
    refine ⟨_, (pss_cons (ps_set (i := 1) sc_part_of.nd rfl (by first | exact Or.inl rfl | exact Or.inr rfl) (pe_lst (pa_cons (pe_tup (pa_cons (pv 0) (pa_cons (pe_lst pa_nil) pa_nil))) pa_nil)))
        (pss_cons (ps_set (i := 2) sc_part_of.nd rfl (by first | exact Or.inl rfl | exact Or.inr rfl) pe_non)
        (pss_cons (ps_while PassesOwn.never (pt_cmpR (op_neE hr.units0) (pv 1) (pe_lst pa_nil) (nomark _)) (pss_cons (ps_asg (pe_ix ix_list (pv 1) (pe_un un_neg pe_int) (fun _ _ => rfl)) (pg_tup rfl (pgs_cons (pg_name (i := 3) sc_part_of.nd rfl (by first | exact Or.inl rfl | exact Or.inr rfl)) (pgs_cons (pg_name (i := 4) sc_part_of.nd rfl (by first | exact Or.inl rfl | exact Or.inr rfl)) pgs_nil))))
          (pss_cons (ps_set (i := 5) sc_part_of.nd rfl (by first | exact Or.inl rfl | exact Or.inr rfl) (pe_cmpR op_in_seq (pe_ix ix_tup (pv 3) pe_int (fun _ _ => rfl)) (pe_tup (pa_cons pe_str (pa_cons pe_str pa_nil))) rfl))
          (C8.pss_cut (ps_if (PW.pt (pw_and (pt_not (pt_val (pv 5))) (pw_and1 (pt_cmpR op_lt (pe_callB call_len_seq (by rfl) T.z_len PySem.boot_len (pa_cons (pv 4) pa_nil)) (pe_op op_sub (pe_callB call_len_seq (by rfl) T.z_len PySem.boot_len (pa_cons (pv 3) pa_nil)) pe_int) (nomark _))))) (pss_cons (ps_expr (pe_bm PySem.F.plainAttrs_list PySem.F.slot_list_append PySem.F.type_list_append mt_append (pv 1) (pa_cons (pe_tup (pa_cons (pe_ix ix_tup (pv 3) (pe_op op_add pe_int (pe_callB call_len_seq (by rfl) T.z_len PySem.boot_len (pa_cons (pv 4) pa_nil))) (fun _ _ => rfl)) (pa_cons (pe_lst pa_nil) pa_nil))) pa_nil)))
            (pss_one ps_continue)) pss_nil)
          (C8.pss_cut (ps_expr (pe_bm0 PySem.F.plainAttrs_list PySem.F.slot_list_pop PySem.F.type_list_pop mt_pop (pv 1)))
          (C8.pss_cut (ps_set (i := 2) sc_part_of.nd rfl (by first | exact Or.inl rfl | exact Or.inr rfl) (pe_ifExp (pt_val (pv 5)) (pe_callF G_single hr pass0 (pa_cons (pv 3) pa_nil)) (pe_callF G_joined hr pass0 (pa_cons (pe_ix ix_tup (pv 3) pe_int (fun _ _ => rfl)) (pa_cons (pv 4) pa_nil)))))
          (pss_one (ps_if (pt_cmpR (op_neE hr.units0) (pv 1) (pe_lst pa_nil) (nomark _)) (pss_one (ps_expr (pe_bm PySem.F.plainAttrs_list PySem.F.slot_list_append PySem.F.type_list_append mt_append (pe_ix ix_tup (pe_ix ix_list (pv 1) (pe_un un_neg pe_int) (fun _ _ => rfl)) pe_int (fun _ _ => rfl)) (pa_cons (pv 2) pa_nil)))) pss_nil))))))))
        (pss_one (ps_ret (pv 2)))))), ?_⟩
    refine ⟨_, rfl, Nat.zero_le _, fun p1 n1 => ⟨line_ge (by simp), fun tp n2 => ⟨line_ge (by simp), fun op n3 => ?_⟩⟩⟩
    have s1 : Same H (upd H p1 (.lst [])) := Same.new n1
    have s2 : Same (upd H p1 (.lst [])) (upd (upd H p1 (.lst [])) tp (.tup [.ref t0, .ref p1])) := Same.new n2
    have s3 : Same (upd (upd H p1 (.lst [])) tp (.tup [.ref t0, .ref p1])) (upd (upd (upd H p1 (.lst [])) tp (.tup [.ref t0, .ref p1])) op (.lst [.ref tp])) := Same.new n3
    have n3' : H op = none := s1.free (s2.free n3)
    have hpo : p1 ≠ op := ne_of_none (s2 _ _ upd_same) n3
    refine ⟨PInv cl H (.ref t0) op root, ⟨mu [⟨root, [], p1⟩], [.ref tp], [⟨root, [], p1⟩], .non, none, none, none, rfl, upd_same, n3', s1.trans (s2.trans s3), rfl, .inr ⟨.one ⟨⟨tp, t0, [], rfl, s3 _ _ upd_same, ?_, s3 _ _ (s2 _ _ upd_same), .nil⟩, n1, rfl, hz, hd, hok⟩ rfl, ?_⟩⟩, ?_⟩
    · exact ht.mono (T := cl.has) (Same.imm (s1.trans (s2.trans s3)))
    · intro f hf
      rw [List.mem_singleton.mp hf]
      exact hpo
    rintro m σ H1 ⟨vs, fr, x, o1, o2, o3, rfl, hop, nop, sm, rfl, hst⟩
    refine ⟨_, rfl, Nat.zero_le _, fun q nq => ⟨op, q, vs, rfl, rfl, SqL.of (Same.new nq _ _ hop), SqL.of upd_same, _, rfl, ?_⟩⟩
    rcases hst with ⟨rfl, rfl, a, rfl, hp⟩ | ⟨hst, hno⟩
    · refine iteF ?_
      walk_at "rd"
      exact k _ _ (sm.trans (Same.new nq)) (hp.mono (Imm.new nq))
    · have hvs : vs.isEmpty = false := by
        have := hst.ne.2
        cases vs with
        | nil => exact absurd rfl this
        | cons => rfl
      rw [hvs]
      refine iteT ⟨fun σ' H' => ∃ m', m' < mu fr ∧ PInv cl H (.ref t0) op root m' σ' H', fun σ' H' h => h, ?_⟩
      -- the top of the stack
      obtain ⟨ws0, v, f, r, evs, efr, hf⟩ : ∃ ws0 v f r, vs = ws0 ++ [v] ∧ fr = f :: r ∧ Fr1 cl H H1 v f := by
        cases hst with
        | one h hr => exact ⟨[], _, _, _, rfl, rfl, h⟩
        | push s h hk ne => exact ⟨_, _, _, _, rfl, rfl, h⟩
      obtain ⟨⟨tp, t, ws, rfl, h1, h2, h3, h4⟩, fnew, fpre, fsz, fdp, fok⟩ := hf
      have sq : Same H1 (upd H1 q (.lst [])) := Same.new nq
      obtain ⟨rest, hsh, hki⟩ := h2.shape
      refine ⟨_, rfl, 1, rfl, op, vs, -1, .ref tp, rfl, rfl, SqL.of (sq _ _ hop), by rw [evs]; exact atI_last _ _, ?_⟩
      refine ⟨tp, _, rfl, SqT.of (sq _ _ h1), rfl, _, _, rfl, ?_⟩
      walk_at "rd"
      refine ⟨t, _, 0, .str (kindS f.c), rfl, rfl, SqT.of (sq _ _ hsh), atI_int (by decide) rfl, line_ge (by simp), fun q2 nq2 => ⟨q2, _, rfl, .inr (SqT.of upd_same), rfl, rfl, ?_⟩⟩
      have e1 : (V.bl (if false = true then !inV (.str (kindS f.c)) [.str "fixed", .str "contact"] else inV (.str (kindS f.c)) [.str "fixed", .str "contact"])) = .bl f.c.single := by
        rw [if_neg Bool.false_ne_true, single_in]
      rw [e1]
      have sq2 : Same H1 (upd (upd H1 q (.lst [])) q2 (.tup [.str "fixed", .str "contact"])) := sq.trans (Same.new nq2)
      generalize (upd (upd H1 q (.lst [])) q2 (.tup [.str "fixed", .str "contact"])) = H2 at sq2 ⊢
      clear e1
      have hn2 : H2 f.pl = some (.lst ws) := sq2 _ _ h3
      have hp2 := h4.length
      have hds : f.ds.length ≤ f.c.kids.length := by
        have := congrArg List.length fpre
        rw [List.length_take] at this
        omega
      refine ⟨fun σ' H' => σ' = [some (.ref t0), some (.ref op), some x, some (.ref t), some (.ref f.pl), some (.bl f.c.single)] ∧ Same H1 H' ∧ f.ds.length = f.c.kids.length, ?_, ?_⟩
      · walk_at "rd"
        cases hsg : f.c.single with
        | true =>
          refine iteF ⟨sq2, ?_⟩
          have e := single_kids hsg
          rw [e] at hds ⊢
          simp at hds
          rw [hds]
        | false =>
          have hki' := hki hsg
          have hrl := hki'.length
          refine iteT ⟨ws, .inl (SqL.of hn2), _, .inr (SqT.of (sq2 _ _ hsh)), ?_⟩
          by_cases hlt : f.ds.length < f.c.kids.length
          · rw [decide_eq_true (show ((ws.length : Nat) : Int) < (((V.str (kindS f.c) :: rest).length : Nat) : Int) - 1 by rw [List.length_cons]; omega)]
            refine iteT ?_
            -- the next part is opened
            obtain ⟨c', hc'⟩ : ∃ c', f.c.kids[f.ds.length]? = some c' := ⟨_, List.getElem?_eq_getElem hlt⟩
            obtain ⟨v', hv'⟩ : ∃ v', rest[f.ds.length]? = some v' := ⟨_, List.getElem?_eq_getElem (by omega)⟩
            obtain ⟨c2, hc2, ht'⟩ := hki'.at hv'
            rw [hc'] at hc2
            cases hc2
            obtain ⟨t', x', rfl, ht2⟩ := ht'.ref
            refine ⟨_, rfl, .inl ⟨rfl, _, SqL.of (sq2 _ _ hop)⟩, ?_⟩
            walk_at "rd"
            refine ⟨ws, .inl (SqL.of hn2), t, _, _, .ref t', rfl, rfl, SqT.of (sq2 _ _ hsh), atI_int (by omega) ?_, line_ge (by simp), fun pl' npl' => ⟨line_ge (by simp), fun tp' ntp' => ?_⟩⟩
            · have e : ((1 : Int) + (ws.length : Nat)).toNat = f.ds.length + 1 := by omega
              rw [e, List.getElem?_cons_succ]
              exact hv'
            have sA : Same H1 (upd (upd H2 pl' (.lst [])) tp' (.tup [.ref t', .ref pl'])) := (sq2.trans (Same.new npl')).trans (Same.new ntp')
            have nplH : H1 pl' = none := sq2.free npl'
            refine ⟨op, vs, _, rfl, rfl, sA _ _ hop, ?_, ?_⟩
            · have h1 := hst.len
              have h2 := hst.deep efr
              have h3 := f.c.depth_pos
              rw [efr, List.length_cons] at h1
              exact small1000 (by omega)
            have hplo : pl' ≠ op := (ne_of_none hop nplH).symm
            have hplr : ∀ e ∈ fr, e.pl ≠ pl' := by
              intro e he q
              have h := Stk.lists hst e he
              obtain ⟨ws', hw⟩ := h
              rw [q, nplH] at hw
              cases hw
            have kp : Imm cl.has H1 (upd (upd (upd H2 pl' (.lst [])) tp' (.tup [.ref t', .ref pl'])) op (.lst (vs ++ [.ref tp']))) := (Same.imm sA).trans (Imm.mut (sA _ _ hop) id)
            have kl : ∀ g ∈ fr, ∀ ws, H1 g.pl = some (.lst ws) → upd (upd (upd H2 pl' (.lst [])) tp' (.tup [.ref t', .ref pl'])) op (.lst (vs ++ [.ref tp'])) g.pl = some (.lst ws) := by
              intro g hg ws hw
              rw [upd_ne (hno g hg)]
              exact sA _ _ hw
            have hck : c' ∈ f.c.kids := List.mem_of_getElem? hc'
            have z1 := Cond.size_mem hck
            have z2 := Cond.depth_mem hck
            have z3 := f.c.size_kids
            have z4 := f.c.depth_kids
            have hnew : Fr1 cl H (upd (upd (upd H2 pl' (.lst [])) tp' (.tup [.ref t', .ref pl'])) op (.lst (vs ++ [.ref tp']))) (.ref tp') ⟨c', [], pl'⟩ := by
              have ntpo : tp' ≠ op := (ne_of_none ((sq2.trans (Same.new npl')) _ _ hop) ntp').symm
              refine ⟨⟨tp', t', [], rfl, ?_, ?_, ?_, .nil⟩, sm.free nplH, rfl, (show c'.size ≤ 60 by omega), (show c'.depth ≤ 20 by omega), Cond.oks_mem (Cond.ok_kids fok) hck⟩
              · rw [upd_ne ntpo, upd_same]
              · exact ht'.mono kp
              · rw [upd_ne hplo]
                exact Same.new ntp' _ _ upd_same
            rw [efr] at hst kl hplr hno ⊢
            refine ⟨_, mu_push (f := ⟨c', [], pl'⟩) hc' rfl, vs ++ [.ref tp'], _, x, _, _, _, rfl, upd_same, nop, Same.mut (sm.trans sA) nop, rfl, .inr ⟨.push (hst.keep kp kl) hnew hc' hplr, fun g hg => ?_⟩⟩
            rcases List.mem_cons.mp hg with rfl | hg
            · exact hplo
            · exact hno g hg
          · rw [decide_eq_false (show ¬ ((ws.length : Nat) : Int) < (((V.str (kindS f.c) :: rest).length : Nat) : Int) - 1 by rw [List.length_cons]; omega)]
            exact iteF ⟨sq2, by omega⟩
      rintro σ' H3 ⟨rfl, s3', hfull⟩
      have hop3 := s3' _ _ hop
      have hkids : f.ds = f.c.kids := by rw [fpre, hfull, List.take_of_length_le (Nat.le_refl _)]
      refine ⟨fun σ' H' => σ' = [some (.ref t0), some (.ref op), some x, some (.ref t), some (.ref f.pl), some (.bl f.c.single)] ∧ H' = upd H3 op (.lst ws0), ?_, ?_⟩
      · refine ⟨_, rfl, .inl ⟨rfl, _, SqL.of hop3⟩, op, vs, .ref tp, rfl, rfl, hop3, ?_, rfl, ?_⟩
        · rw [evs]
          simp
        · rw [evs, List.dropLast_concat]
      rintro σ' H4 ⟨rfl, e4⟩
      have i4 : Imm cl.has H3 H4 := by
        rw [e4]
        exact Imm.mut hop3 id
      have l4 : ∀ g ∈ fr, ∀ ws, H3 g.pl = some (.lst ws) → H4 g.pl = some (.lst ws) := by
        intro g hg ws hw
        rw [e4, upd_ne (hno g hg)]
        exact hw
      have i14 : Imm cl.has H1 H4 := (Same.imm s3').trans i4
      have o4 : H4 op = some (.lst ws0) := by
        rw [e4, upd_same]
      have sm4 : Same H H4 := by
        rw [e4]
        exact Same.mut (sm.trans s3') nop
      have st4 : Stk cl H H4 root vs fr := (hst.keep (Same.imm s3') (fun g hg ws hw => s3' _ _ hw)).keep i4 l4
      clear e4
      refine ⟨fun σ' H' => ∃ y, σ' = [some (.ref t0), some (.ref op), some (.ref y), some (.ref t), some (.ref f.pl), some (.bl f.c.single)] ∧ Same H4 H' ∧ IsP cl H' (.ref y) f.c, ?_, ?_⟩
      · have h24 := h2.mono i14
        refine ⟨_, rfl, _, rfl, ?_⟩
        cases hsg : f.c.single with
        | true => exact iteT ⟨_, rfl, .ref t, f.c, rfl, h24, hsg, fok, fun H5 y s5 p5 => ⟨y, rfl, s5, p5⟩⟩
        | false =>
          refine iteF ⟨_, rfl, t, _, 0, .str (kindS f.c), rfl, rfl, SqT.of (i14 _ _ hsh trivial), atI_int (by decide) rfl, _, rfl, f.pl, ws, f.c, rfl, ?_, hsg, fok, ?_, fsz, fdp, fun H5 y s5 p5 => ⟨y, rfl, s5, p5⟩⟩
          · exact l4 f (by rw [efr]; exact List.mem_cons_self) _ (s3' _ _ h3)
          · rw [← hkids]
            exact h4.mono i14
      rintro σ' H5 ⟨y, rfl, s5, p5⟩
      refine ⟨_, rfl, Nat.zero_le _, fun q3 nq3 => ⟨op, q3, ws0, rfl, rfl, SqL.of (Same.new nq3 _ _ (s5 _ _ o4)), SqL.of upd_same, _, rfl, ?_⟩⟩
      have s46 : Same H4 (upd H5 q3 (.lst [])) := s5.trans (Same.new nq3)
      have p6 : IsP cl (upd H5 q3 (.lst [])) (.ref y) f.c := p5.mono (Imm.new nq3)
      generalize upd H5 q3 (.lst []) = H6 at s46 p6 ⊢
      cases r with
      | nil =>
        have ews : ws0 = [] := by
          have h := hst.len
          rw [efr, evs] at h
          simpa using h
        subst ews
        refine iteF ⟨0, by rw [efr]; exact Nat.lt_of_lt_of_le Nat.zero_lt_one (Nat.le_add_right 1 _), [], [], .ref y, _, _, _, rfl, s46 _ _ o4, nop, sm4.trans s46, rfl, .inl ⟨rfl, rfl, y, rfl, ?_⟩⟩
        rw [efr] at hst
        cases hst with
        | one h hr => rw [← hr]; exact p6
      | cons g r =>
        rw [efr, evs] at st4
        obtain ⟨sg, hk, ne⟩ : Stk cl H H4 root ws0 (g :: r) ∧ g.c.kids[g.ds.length]? = some f.c ∧ ∀ e ∈ g :: r, e.pl ≠ f.pl := by
          generalize he : ws0 ++ [V.ref tp] = vv at st4
          cases st4 with
          | push s h hk ne =>
            have := List.append_inj_left' he rfl
            subst this
            exact ⟨s, hk, ne⟩
        have sg6 : Stk cl H H6 root ws0 (g :: r) := sg.keep (Same.imm s46) (fun e _ ws hw => s46 _ _ hw)
        obtain ⟨vs1, v1, ev1, hg1⟩ : ∃ vs1 v1, ws0 = vs1 ++ [v1] ∧ Fr1 cl H H6 v1 g := by
          cases sg6 with
          | one h hr => exact ⟨[], _, rfl, h⟩
          | push s h hk ne => exact ⟨_, _, rfl, h⟩
        obtain ⟨⟨tg, tt, wg, rfl, g1, g2, g3, g4⟩, gnew, gpre, gsz, gdp, gok⟩ := hg1
        have hne : ws0.isEmpty = false := by rw [ev1]; simp
        rw [hne]
        have o6 := s46 _ _ o4
        refine iteT ⟨_, rfl, 1, rfl, op, ws0, -1, .ref tg, rfl, rfl, SqL.of o6, by rw [ev1]; exact atI_last _ _, tg, _, 1, .ref g.pl, rfl, rfl, SqT.of g1, rfl, .inl ⟨rfl, _, SqL.of g3⟩, ?_⟩
        have hwl := g4.length
        have hgl : g.ds.length < g.c.kids.length := (List.getElem?_eq_some_iff.mp hk).1
        have hz3 := Cond.len_sizes g.c.kids
        have hz4 := g.c.size_kids
        refine ⟨_, rfl, g.pl, wg, .ref y, rfl, rfl, g3, small1000 (by omega), ?_⟩
        have ngo : g.pl ≠ op := hno g (by rw [efr]; exact List.mem_cons_of_mem _ List.mem_cons_self)
        refine ⟨mu (⟨g.c, g.ds ++ [f.c], g.pl⟩ :: r), ?_, ws0, ⟨g.c, g.ds ++ [f.c], g.pl⟩ :: r, .ref y, _, _, _, rfl, ?_, nop, Same.mut (sm4.trans s46) gnew, rfl, .inr ⟨?_, ?_⟩⟩
        · rw [efr]
          exact mu_pop rfl (by simp)
        · rw [upd_ne ngo.symm]
          exact o6
        · have i7 : Imm cl.has H6 (upd H6 g.pl (.lst (wg ++ [.ref y]))) := Imm.mut g3 id
          have hfr : Fr1 cl H (upd H6 g.pl (.lst (wg ++ [.ref y]))) (.ref tg) ⟨g.c, g.ds ++ [f.c], g.pl⟩ := by
            refine ⟨⟨tg, tt, wg ++ [.ref y], rfl, i7 _ _ g1 trivial, g2.mono i7, upd_same, (g4.mono i7).snoc (p6.mono i7)⟩, gnew, ?_, gsz, gdp, gok⟩
            show g.ds ++ [f.c] = g.c.kids.take (g.ds ++ [f.c]).length
            rw [List.length_append, List.length_singleton, List.take_succ, hk, ← gpre]
            rfl
          exact sg6.swap i7 (fun e he => by
            intro ws hw
            rw [upd_ne he]
            exact hw) ev1 hfr rfl rfl
        · intro e he
          rcases List.mem_cons.mp he with rfl | he
          · exact ngo
          · exact hno e (by rw [efr]; exact List.mem_cons_of_mem _ (List.mem_cons_of_mem _ he))
end

--%% M4
/-! ## the classes of errors -/
structure Xc where
  err : Addr
  name : Addr
  part : Addr
  end_ : Addr
  ladder : Addr
  text : Addr
  row : Addr
  sheet : Addr
  state : Addr
  match_ : Addr
  many : Addr

inductive Xk where
  | name
  | part
  | end_
  | ladder
  | sheet
  | many
deriving DecidableEq
def Xc.at (xc : Xc) : Xk → Addr
  | .name => xc.name
  | .part => xc.part
  | .end_ => xc.end_
  | .ladder => xc.ladder
  | .sheet => xc.sheet
  | .many => xc.many
def Xk.str : Xk → Str
  | .name => "name"
  | .part => "part"
  | .end_ => "end"
  | .ladder => "ladder"
  | .sheet => "sheet"
  | .many => "many"
structure TExs (K : PySem.W.Frag) (mg : Str → Option Value) (xc : Xc) : Prop where
  e_err : ErrAt K mg "LadderError" xc.err
  e_name : ExcAt K mg "NoName" xc.name xc.err
  e_part : ExcAt K mg "NoPart" xc.part xc.err
  e_end : ExcAt K mg "NoEnd" xc.end_ xc.err
  e_ladder : ExcAt K mg "NoLadder" xc.ladder xc.err
  e_sheet : ExcAt K mg "NoSheet" xc.sheet xc.err
  e_many : ExcAt K mg "TooMany" xc.many xc.err
  ndx : [xc.err, xc.name, xc.part, xc.end_, xc.ladder, xc.sheet, xc.many].Nodup
section
variable {K : PySem.W.Frag} {mg : Str → Option Value} {xc : Xc}
theorem TExs.of (T : TExs K mg xc) (b : Xk) : ∃ x, ExcAt K mg x (xc.at b) xc.err := by
  cases b
  · exact ⟨_, T.e_name⟩
  · exact ⟨_, T.e_part⟩
  · exact ⟨_, T.e_end⟩
  · exact ⟨_, T.e_ladder⟩
  · exact ⟨_, T.e_sheet⟩
  · exact ⟨_, T.e_many⟩
theorem TExs.err (T : TExs K mg xc) (b : Xk) : xc.at b ≠ xc.err := by
  have nd := T.ndx
  simp only [List.nodup_cons, List.mem_cons, List.not_mem_nil, or_false, not_or] at nd
  intro e
  cases b <;> simp only [Xc.at] at e <;> simp_all
theorem TExs.inj (T : TExs K mg xc) (a b : Xk) (h : xc.at a = xc.at b) : a = b := by
  have nd := T.ndx
  simp only [List.nodup_cons, List.mem_cons, List.not_mem_nil, or_false, not_or] at nd
  cases a <;> cases b <;> first | rfl | (exfalso; simp only [Xc.at] at h; simp_all)
theorem TExs.kit (T : TExs K mg xc) (a b : Xk) : PySem.W.kitOne K (.ref (xc.at a)) (.ref (xc.at b)) = some (decide (a = b)) := by
  obtain ⟨x, h1⟩ := T.of a
  obtain ⟨y, h2⟩ := T.of b
  rw [h1.kit h2 ⟨T.err a, T.err b⟩]
  congr 1
  by_cases h : a = b
  · rw [decide_eq_true h, h, decide_eq_true rfl]
  · rw [decide_eq_false h, decide_eq_false fun e => h (T.inj a b e)]
end

/-! ## ends -/
abbrev s_End___init__ : Stmt := inClass (top 37) 0
theorem sc_End___init__ : FnScope ["self", "name"] ["self", "name"] (defScope s_End___init__) := ⟨rfl, rfl, rfl, by decide +kernel, rfl, by decide +kernel, by decide +kernel⟩
abbrev s_Counting___init__ : Stmt := inClass (top 41) 0
theorem sc_Counting___init__ : FnScope ["self", "name", "most"] ["self", "name", "most"] (defScope s_Counting___init__) := ⟨rfl, rfl, rfl, by decide +kernel, rfl, by decide +kernel, by decide +kernel⟩
abbrev s_End_ahead : Stmt := inClass (top 37) 1
theorem sc_End_ahead : FnScope ["self"] ["self"] (defScope s_End_ahead) := ⟨rfl, rfl, rfl, by decide +kernel, rfl, by decide +kernel, by decide +kernel⟩
abbrev s_Latch_ahead : Stmt := inClass (top 39) 0
theorem sc_Latch_ahead : FnScope ["self"] ["self"] (defScope s_Latch_ahead) := ⟨rfl, rfl, rfl, by decide +kernel, rfl, by decide +kernel, by decide +kernel⟩
abbrev s_Unlatch_ahead : Stmt := inClass (top 40) 0
theorem sc_Unlatch_ahead : FnScope ["self"] ["self"] (defScope s_Unlatch_ahead) := ⟨rfl, rfl, rfl, by decide +kernel, rfl, by decide +kernel, by decide +kernel⟩
abbrev s_Timer_ahead : Stmt := inClass (top 42) 0
theorem sc_Timer_ahead : FnScope ["self"] ["self"] (defScope s_Timer_ahead) := ⟨rfl, rfl, rfl, by decide +kernel, rfl, by decide +kernel, by decide +kernel⟩
abbrev s_Counter_ahead : Stmt := inClass (top 43) 0
theorem sc_Counter_ahead : FnScope ["self"] ["self"] (defScope s_Counter_ahead) := ⟨rfl, rfl, rfl, by decide +kernel, rfl, by decide +kernel, by decide +kernel⟩
abbrev s_End_behind : Stmt := inClass (top 37) 2
theorem sc_End_behind : FnScope ["self"] ["self"] (defScope s_End_behind) := ⟨rfl, rfl, rfl, by decide +kernel, rfl, by decide +kernel, by decide +kernel⟩
abbrev s_Counting_behind : Stmt := inClass (top 41) 1
theorem sc_Counting_behind : FnScope ["self"] ["self"] (defScope s_Counting_behind) := ⟨rfl, rfl, rfl, by decide +kernel, rfl, by decide +kernel, by decide +kernel⟩
abbrev s_End_text : Stmt := inClass (top 37) 3
theorem sc_End_text : FnScope ["self"] ["self"] (defScope s_End_text) := ⟨rfl, rfl, rfl, by decide +kernel, rfl, by decide +kernel, by decide +kernel⟩
inductive Ek where
  | coil | latch | unlatch | timer | counter
deriving DecidableEq
/-- the classes of ends -/
structure Ce where
  coil : Addr
  latch : Addr
  unlatch : Addr
  timer : Addr
  counter : Addr
  en : Addr
def Ce.at (ce : Ce) : Ek → Addr
  | .coil => ce.coil
  | .latch => ce.latch
  | .unlatch => ce.unlatch
  | .timer => ce.timer
  | .counter => ce.counter
def Ce.has (ce : Ce) (C : Addr) : Prop := ∃ k, C = ce.at k
def Ek.counts : Ek → Bool
  | .timer => true
  | .counter => true
  | _ => false
/-- an end: its kind, its name, its greatest count -/
structure EndC where
  k : Ek
  n : Str
  m : Int
def EndC.fs (e : EndC) : List (Str × V) := if e.k.counts then [("name", .str e.n), ("most", .int e.m)] else [("name", .str e.n)]
def IsE (ce : Ce) (H : Hp) (v : V) (e : EndC) : Prop := ∃ a dx, v = .ref a ∧ H a = some (.ins (ce.at e.k) dx e.fs)
theorem IsE.mono {ce : Ce} {H H' : Hp} {v : V} {e : EndC} (k : Imm ce.has H H') (p : IsE ce H v e) : IsE ce H' v e := by
  obtain ⟨a, dx, e1, h⟩ := p
  exact ⟨a, dx, e1, k _ _ h ⟨_, rfl⟩⟩
def Ek.ahead : Ek → Str
  | .coil => ""
  | .latch => "set "
  | .unlatch => "reset "
  | .timer => "timer "
  | .counter => "counter "
def EndC.behind (e : EndC) : Str := if e.k.counts then " " ++ (toString e.m : String) else ""
def EndC.text (e : EndC) : Str := e.k.ahead ++ e.n ++ e.behind
/-- as it may be -/
def EndC.ok (e : EndC) : Prop := isName e.n = true ∧ 1 ≤ e.m ∧ e.m ≤ 9
structure TEnds (K : PySem.W.Frag) (mg : Str → Option Value) (ce : Ce) : Prop where
  names : TNames K mg
  c_Coil : ClsAt K mg "Coil" ce.coil
  c_Latch : ClsAt K mg "Latch" ce.latch
  c_Unlatch : ClsAt K mg "Unlatch" ce.unlatch
  c_Timer : ClsAt K mg "Timer" ce.timer
  c_Counter : ClsAt K mg "Counter" ce.counter
  c_End : ClsAt K mg "End" ce.en
  nn_coil : NoAttr K ce.coil "name"
  nn_latch : NoAttr K ce.latch "name"
  nn_unlatch : NoAttr K ce.unlatch "name"
  nn_timer : NoAttr K ce.timer "name"
  nn_counter : NoAttr K ce.counter "name"
  nm_timer : NoAttr K ce.timer "most"
  nm_counter : NoAttr K ce.counter "most"
  m_ahead_coil : MethAt K ce.coil "ahead" "End.ahead" s_End_ahead ["self"]
  m_ahead_latch : MethAt K ce.latch "ahead" "Latch.ahead" s_Latch_ahead ["self"]
  m_ahead_unlatch : MethAt K ce.unlatch "ahead" "Unlatch.ahead" s_Unlatch_ahead ["self"]
  m_ahead_timer : MethAt K ce.timer "ahead" "Timer.ahead" s_Timer_ahead ["self"]
  m_ahead_counter : MethAt K ce.counter "ahead" "Counter.ahead" s_Counter_ahead ["self"]
  m_behind_coil : MethAt K ce.coil "behind" "End.behind" s_End_behind ["self"]
  m_behind_latch : MethAt K ce.latch "behind" "End.behind" s_End_behind ["self"]
  m_behind_unlatch : MethAt K ce.unlatch "behind" "End.behind" s_End_behind ["self"]
  m_behind_timer : MethAt K ce.timer "behind" "Counting.behind" s_Counting_behind ["self"]
  m_behind_counter : MethAt K ce.counter "behind" "Counting.behind" s_Counting_behind ["self"]
  m_text_coil : MethAt K ce.coil "text" "End.text" s_End_text ["self"]
  m_text_latch : MethAt K ce.latch "text" "End.text" s_End_text ["self"]
  m_text_unlatch : MethAt K ce.unlatch "text" "End.text" s_End_text ["self"]
  m_text_timer : MethAt K ce.timer "text" "End.text" s_End_text ["self"]
  m_text_counter : MethAt K ce.counter "text" "End.text" s_End_text ["self"]
  m_init_coil : MethAt K ce.coil "__init__" "End.__init__" s_End___init__ ["self", "name"]
  m_init_latch : MethAt K ce.latch "__init__" "End.__init__" s_End___init__ ["self", "name"]
  m_init_unlatch : MethAt K ce.unlatch "__init__" "End.__init__" s_End___init__ ["self", "name"]
  m_init_timer : MethAt K ce.timer "__init__" "Counting.__init__" s_Counting___init__ ["self", "name", "most"]
  m_init_counter : MethAt K ce.counter "__init__" "Counting.__init__" s_Counting___init__ ["self", "name", "most"]
  f_init : ClsFnAt K ce.en "__init__" "End.__init__" s_End___init__ ["self", "name"]
  nde : [ce.coil, ce.latch, ce.unlatch, ce.timer, ce.counter].Nodup
  z_isinstance : mg "isinstance" = none
  z_int : mg "int" = none
  z_bool : mg "bool" = none
  z_str : mg "str" = none
  g_MOST_COUNT : GlobC mg "MOST_COUNT" (.int 9)
section
variable {P : Program} {w : World} {K : PySem.W.Frag} {mg : Str → Option Value} {base : Heap} {ce : Ce} {xc : Xc}
theorem isName_len' {z : Str} (h : isName z = true) : z.length ≤ 8 := by
  unfold isName at h
  simp only [Bool.and_eq_true, decide_eq_true_eq] at h
  exact h.1.2
theorem TEnds.cls (T : TEnds K mg ce) : ∀ k : Ek, Cls K (ce.at k)
  | .coil => T.c_Coil.cl
  | .latch => T.c_Latch.cl
  | .unlatch => T.c_Unlatch.cl
  | .timer => T.c_Timer.cl
  | .counter => T.c_Counter.cl
theorem TEnds.nn (T : TEnds K mg ce) : ∀ k : Ek, NoAttr K (ce.at k) "name"
  | .coil => T.nn_coil
  | .latch => T.nn_latch
  | .unlatch => T.nn_unlatch
  | .timer => T.nn_timer
  | .counter => T.nn_counter
theorem TEnds.nm (T : TEnds K mg ce) : ∀ k : Ek, k.counts = true → NoAttr K (ce.at k) "most"
  | .timer, _ => T.nm_timer
  | .counter, _ => T.nm_counter
theorem TEnds.inj (T : TEnds K mg ce) (a b : Ek) (h : ce.at a = ce.at b) : a = b := by
  have nd := T.nde
  simp only [List.nodup_cons, List.mem_cons, List.not_mem_nil, or_false, not_or] at nd
  cases a <;> cases b <;> first | rfl | (exfalso; simp only [Ce.at] at h; simp_all)
theorem E_name (e : EndC) : List.lookup ("name" : Str) e.fs = some (.str e.n) := by
  unfold EndC.fs
  split <;> simp [List.lookup]
theorem E_most {e : EndC} (h : e.k.counts = true) : List.lookup ("most" : Str) e.fs = some (.int e.m) := by
  unfold EndC.fs
  rw [if_pos h]
  have e1 : (("most" : Str) == ("name" : Str)) = false := by decide +kernel
  simp [List.lookup, e1]
theorem E_no {m : Str} (e : EndC) (h1 : (m == ("name" : Str)) = false) (h2 : (m == ("most" : Str)) = false) : List.lookup m e.fs = none := by
  unfold EndC.fs
  split <;> simp [List.lookup, h1, h2]
theorem most_len {m : Int} (h1 : 1 ≤ m) (h2 : m ≤ 9) : (Str.ofString (toString m)).length = 1 := by
  rcases (by omega : m = 1 ∨ m = 2 ∨ m = 3 ∨ m = 4 ∨ m = 5 ∨ m = 6 ∨ m = 7 ∨ m = 8 ∨ m = 9) with rfl | rfl | rfl | rfl | rfl | rfl | rfl | rfl | rfl <;> decide +kernel
theorem most_log {m : Int} (h1 : 1 ≤ m) (h2 : m ≤ 9) : m.natAbs.log2 < 1920 := by
  rcases (by omega : m = 1 ∨ m = 2 ∨ m = 3 ∨ m = 4 ∨ m = 5 ∨ m = 6 ∨ m = 7 ∨ m = 8 ∨ m = 9) with rfl | rfl | rfl | rfl | rfl | rfl | rfl | rfl | rfl <;> decide +kernel
def spE (ce : Ce) (f : EndC → V) (C : Addr) : Sp := fun vs H Q _ => ∃ (v : V) (e : EndC), vs = [v] ∧ IsE ce H v e ∧ C = ce.at e.k ∧ 1 ≤ e.m ∧ e.m ≤ 9 ∧ isName e.n = true ∧ Q (f e) H
theorem disp_ahead (T : TEnds K mg ce) : DispAt P w K mg base CX0 ce.has "ahead" 1 ["self"] (spE ce fun e => .str e.k.ahead) := by
  refine ⟨fun C hC => ?_⟩
  obtain ⟨k, rfl⟩ := hC
  cases k
  · refine methAt_ok (T.cls .coil) T.m_ahead_coil sc_End_ahead (fun vs H Q E h => ?_) (fun f cdv A outer s H vs Q E hr h => ?_)
    · obtain ⟨v, e, rfl, _⟩ := h; rfl
    · obtain ⟨v, e, rfl, p, hk, h1, h2, hn, q⟩ := h
      have q : Q (.str e.k.ahead) H := q
      rw [← T.inj _ _ hk] at q
      refine ⟨_, (pss_one (ps_ret pe_str)), ?_⟩
      walk_at "rd"
      exact q
  · refine methAt_ok (T.cls .latch) T.m_ahead_latch sc_Latch_ahead (fun vs H Q E h => ?_) (fun f cdv A outer s H vs Q E hr h => ?_)
    · obtain ⟨v, e, rfl, _⟩ := h; rfl
    · obtain ⟨v, e, rfl, p, hk, h1, h2, hn, q⟩ := h
      have q : Q (.str e.k.ahead) H := q
      rw [← T.inj _ _ hk] at q
      refine ⟨_, (pss_one (ps_ret pe_str)), ?_⟩
      walk_at "rd"
      exact q
  · refine methAt_ok (T.cls .unlatch) T.m_ahead_unlatch sc_Unlatch_ahead (fun vs H Q E h => ?_) (fun f cdv A outer s H vs Q E hr h => ?_)
    · obtain ⟨v, e, rfl, _⟩ := h; rfl
    · obtain ⟨v, e, rfl, p, hk, h1, h2, hn, q⟩ := h
      have q : Q (.str e.k.ahead) H := q
      rw [← T.inj _ _ hk] at q
      refine ⟨_, (pss_one (ps_ret pe_str)), ?_⟩
      walk_at "rd"
      exact q
  · refine methAt_ok (T.cls .timer) T.m_ahead_timer sc_Timer_ahead (fun vs H Q E h => ?_) (fun f cdv A outer s H vs Q E hr h => ?_)
    · obtain ⟨v, e, rfl, _⟩ := h; rfl
    · obtain ⟨v, e, rfl, p, hk, h1, h2, hn, q⟩ := h
      have q : Q (.str e.k.ahead) H := q
      rw [← T.inj _ _ hk] at q
      refine ⟨_, (pss_one (ps_ret pe_str)), ?_⟩
      walk_at "rd"
      exact q
  · refine methAt_ok (T.cls .counter) T.m_ahead_counter sc_Counter_ahead (fun vs H Q E h => ?_) (fun f cdv A outer s H vs Q E hr h => ?_)
    · obtain ⟨v, e, rfl, _⟩ := h; rfl
    · obtain ⟨v, e, rfl, p, hk, h1, h2, hn, q⟩ := h
      have q : Q (.str e.k.ahead) H := q
      rw [← T.inj _ _ hk] at q
      refine ⟨_, (pss_one (ps_ret pe_str)), ?_⟩
      walk_at "rd"
      exact q
theorem disp_behind (T : TEnds K mg ce) : DispAt P w K mg base CX0 ce.has "behind" 1 ["self"] (spE ce fun e => .str e.behind) := by
  refine ⟨fun C hC => ?_⟩
  obtain ⟨k, rfl⟩ := hC
  cases k
  · refine methAt_ok (T.cls .coil) T.m_behind_coil sc_End_behind (fun vs H Q E h => ?_) (fun f cdv A outer s H vs Q E hr h => ?_)
    · obtain ⟨v, e, rfl, _⟩ := h; rfl
    · obtain ⟨v, e, rfl, p, hk, h1, h2, hn, q⟩ := h
      have q : Q (.str e.behind) H := q
      unfold EndC.behind at q
      rw [← T.inj _ _ hk] at q
      refine ⟨_, (pss_one (ps_ret pe_str)), ?_⟩
      walk_at "rd"
      exact q
  · refine methAt_ok (T.cls .latch) T.m_behind_latch sc_End_behind (fun vs H Q E h => ?_) (fun f cdv A outer s H vs Q E hr h => ?_)
    · obtain ⟨v, e, rfl, _⟩ := h; rfl
    · obtain ⟨v, e, rfl, p, hk, h1, h2, hn, q⟩ := h
      have q : Q (.str e.behind) H := q
      unfold EndC.behind at q
      rw [← T.inj _ _ hk] at q
      refine ⟨_, (pss_one (ps_ret pe_str)), ?_⟩
      walk_at "rd"
      exact q
  · refine methAt_ok (T.cls .unlatch) T.m_behind_unlatch sc_End_behind (fun vs H Q E h => ?_) (fun f cdv A outer s H vs Q E hr h => ?_)
    · obtain ⟨v, e, rfl, _⟩ := h; rfl
    · obtain ⟨v, e, rfl, p, hk, h1, h2, hn, q⟩ := h
      have q : Q (.str e.behind) H := q
      unfold EndC.behind at q
      rw [← T.inj _ _ hk] at q
      refine ⟨_, (pss_one (ps_ret pe_str)), ?_⟩
      walk_at "rd"
      exact q
  · refine methAt_ok (T.cls .timer) T.m_behind_timer sc_Counting_behind (fun vs H Q E h => ?_) (fun f cdv A outer s H vs Q E hr h => ?_)
    · obtain ⟨v, e, rfl, _⟩ := h; rfl
    · obtain ⟨v, e, rfl, p, hk, h1, h2, hn, q⟩ := h
      have ek := T.inj _ _ hk
      have hcn : e.k.counts = true := by rw [← ek]; rfl
      have q : Q (.str e.behind) H := q
      unfold EndC.behind at q
      rw [hcn] at q
      obtain ⟨a, dx, rfl, ha⟩ := p
      refine ⟨_, (pss_one (ps_ret (pe_op op_add_str pe_str (pe_callTy call_str_int (by rfl) T.z_str (show PySem.bootBuiltins "str" = some (.type "str") by decide +kernel) (pa_cons (pe_fld (pv 0) rfl) pa_nil))))), ?_⟩
      walk_at "rd"
      rw [if_pos rfl] at q
      exact ⟨_, rfl, a, _, dx, _, _, rfl, ha, T.cls _, T.nm _ hcn, E_most hcn, e.m, rfl, most_log h1 h2, line_ge (by rw [most_len h1 h2]; decide +kernel), q⟩
  · refine methAt_ok (T.cls .counter) T.m_behind_counter sc_Counting_behind (fun vs H Q E h => ?_) (fun f cdv A outer s H vs Q E hr h => ?_)
    · obtain ⟨v, e, rfl, _⟩ := h; rfl
    · obtain ⟨v, e, rfl, p, hk, h1, h2, hn, q⟩ := h
      have ek := T.inj _ _ hk
      have hcn : e.k.counts = true := by rw [← ek]; rfl
      have q : Q (.str e.behind) H := q
      unfold EndC.behind at q
      rw [hcn] at q
      obtain ⟨a, dx, rfl, ha⟩ := p
      refine ⟨_, (pss_one (ps_ret (pe_op op_add_str pe_str (pe_callTy call_str_int (by rfl) T.z_str (show PySem.bootBuiltins "str" = some (.type "str") by decide +kernel) (pa_cons (pe_fld (pv 0) rfl) pa_nil))))), ?_⟩
      walk_at "rd"
      rw [if_pos rfl] at q
      exact ⟨_, rfl, a, _, dx, _, _, rfl, ha, T.cls _, T.nm _ hcn, E_most hcn, e.m, rfl, most_log h1 h2, line_ge (by rw [most_len h1 h2]; decide +kernel), q⟩
theorem disp_text (T : TEnds K mg ce) : DispAt P w K mg base CX0 ce.has "text" 2 ["self"] (spE ce fun e => .str e.text) := by
  have G_ahead : DispAt P w K mg base CX0 ce.has "ahead" 1 ["self"] (spE ce fun e => .str e.k.ahead) := disp_ahead T
  have G_behind : DispAt P w K mg base CX0 ce.has "behind" 1 ["self"] (spE ce fun e => .str e.behind) := disp_behind T
  refine ⟨fun C hC => ?_⟩
  obtain ⟨k, rfl⟩ := hC
  have D : MethAt K (ce.at k) "text" "End.text" s_End_text ["self"] := by
    cases k
    · exact T.m_text_coil
    · exact T.m_text_latch
    · exact T.m_text_unlatch
    · exact T.m_text_timer
    · exact T.m_text_counter
  refine methAt_ok (T.cls k) D sc_End_text (fun vs H Q E h => ?_) (fun f cdv A outer s H vs Q E hr h => ?_)
  · obtain ⟨v, e, rfl, _⟩ := h; rfl
  · obtain ⟨v, e, rfl, p, hk, h1, h2, hn, q⟩ := h
    have hnl := isName_len' hn
    refine ⟨_, (pss_one (ps_ret (pe_op op_add_str (pe_op op_add_str (pe_methD0 G_ahead hr pass0 (pv 0)) (pe_fld (pv 0) rfl)) (pe_methD0 G_behind hr pass0 (pv 0))))), ?_⟩
    walk_at "rd"
    have q : Q (.str e.text) H := q
    obtain ⟨a, dx, rfl, ha⟩ := id p
    have l1 : e.k.ahead.length ≤ 8 := by
      cases e.k <;> decide +kernel
    have l2 : e.behind.length ≤ 2 := by
      unfold EndC.behind
      split
      · rw [len_app, most_len h1 h2]
        decide +kernel
      · decide +kernel
    refine ⟨_, rfl, a, ce.at e.k, dx, e.fs, rfl, ha, ⟨_, rfl⟩, E_no e (by decide +kernel) (by decide +kernel), .ref a, e, rfl, p, rfl, h1, h2, hn, ?_⟩
    refine ⟨_, rfl, a, _, dx, _, _, rfl, ha, T.cls _, T.nn _, E_name e, ?_⟩
    refine ⟨_, rfl, _, rfl, line_ge (by omega), _, rfl, a, ce.at e.k, dx, e.fs, rfl, ha, ⟨_, rfl⟩, E_no e (by decide +kernel) (by decide +kernel), .ref a, e, rfl, p, rfl, h1, h2, hn, ?_⟩
    exact ⟨_, rfl, line_ge (by rw [len_app]; omega), q⟩
def spInitEn (ce : Ce) (xc : Xc) : Sp := fun vs H Q E => ∃ (x dx : Addr) (k : Ek) (n : Str), vs = [.ref x, .str n] ∧ H x = some (.ins (ce.at k) dx []) ∧ n.length ≤ sizeLine ∧
  (isName n = true → ∀ H' : Hp, H' x = some (.ins (ce.at k) dx [("name", .str n)]) → But x H H' → Q .non H') ∧ (isName n = false → E (.ref xc.name) none H)
theorem body_en (T : TEnds K mg ce) (X : TExs K mg xc) : ClsFn P w K mg base (L2.CX P w) ce.en "__init__" 3 ["self", "name"] (spInitEn ce xc) := by
  have G_is_name : FnAt P w K mg base CX0 "is_name" 2 _ spIsName := ok_is_name T.names
  have e_NoName := X.e_name
  refine clsFn_okX T.f_init sc_End___init__ (fun vs H Q E h => ?_) (fun f cdv A outer s H vs Q E hr h => ?_)
  · obtain ⟨x, dx, k, n, rfl, _⟩ := h; rfl
  · obtain ⟨x, dx, k, n, rfl, hx, hl, q, qx⟩ := h
    refine ⟨_, (pss_cons (ps_if (pt_not (pt_val (pe_callF G_is_name hr pass0 (pa_cons (pv 1) pa_nil)))) (pss_one (ps_raiseO rfl e_NoName (L2.takes_of rfl rfl rfl rfl))) pss_nil)
        (pss_one (ps_fld (pv 0) (pv 1) rfl))), ?_⟩
    refine ⟨_, rfl, n, rfl, hl, ?_⟩
    cases hn : isName n with
    | false => exact ⟨false, rfl, iteT (qx hn)⟩
    | true =>
      refine ⟨true, rfl, iteF ?_⟩
      refine ⟨_, rfl, _, rfl, x, _, dx, [], rfl, hx, T.cls k, T.nn k, (by show 0 < 1000; decide), ?_⟩
      exact q hn _ upd_same But.upd
theorem init_en (T : TEnds K mg ce) (X : TExs K mg xc) {nm : Str} (k0 : Ek) (c : ClsAt K mg nm (ce.at k0)) (D : MethAt K (ce.at k0) "__init__" "End.__init__" s_End___init__ ["self", "name"]) : MakAt P w K mg base (L2.CX P w) nm (ce.at k0) 3 ["self", "name"] (spInitEn ce xc) := by
  have G_is_name : FnAt P w K mg base CX0 "is_name" 2 _ spIsName := ok_is_name T.names
  have e_NoName := X.e_name
  refine makAt_of c (methAt_okX c.cl D sc_End___init__ (fun vs H Q E h => ?_) (fun f cdv A outer s H vs Q E hr h => ?_))
  · obtain ⟨x, dx, k, n, rfl, _⟩ := h; rfl
  · obtain ⟨x, dx, k, n, rfl, hx, hl, q, qx⟩ := h
    refine ⟨_, (pss_cons (ps_if (pt_not (pt_val (pe_callF G_is_name hr pass0 (pa_cons (pv 1) pa_nil)))) (pss_one (ps_raiseO rfl e_NoName (L2.takes_of rfl rfl rfl rfl))) pss_nil)
        (pss_one (ps_fld (pv 0) (pv 1) rfl))), ?_⟩
    refine ⟨_, rfl, n, rfl, hl, ?_⟩
    cases hn : isName n with
    | false => exact ⟨false, rfl, iteT (qx hn)⟩
    | true =>
      refine ⟨true, rfl, iteF ?_⟩
      refine ⟨_, rfl, _, rfl, x, _, dx, [], rfl, hx, T.cls k, T.nn k, (by show 0 < 1000; decide), ?_⟩
      exact q hn _ upd_same But.upd
def spInitCo (ce : Ce) (xc : Xc) : Sp := fun vs H Q E => ∃ (x dx : Addr) (k : Ek) (n : Str) (m : Int), vs = [.ref x, .str n, .int m] ∧ H x = some (.ins (ce.at k) dx []) ∧ k.counts = true ∧ n.length ≤ sizeLine ∧
  (isName n = true → 1 ≤ m → m ≤ 9 → ∀ H' : Hp, H' x = some (.ins (ce.at k) dx [("name", .str n), ("most", .int m)]) → But x H H' → Q .non H') ∧ (isName n = false → E (.ref xc.name) none H) ∧ (isName n = true → ¬ (1 ≤ m ∧ m ≤ 9) → ∀ H', But x H H' → E (.ref xc.end_) none H')
theorem init_co (T : TEnds K mg ce) (X : TExs K mg xc) {nm : Str} (k0 : Ek) (c : ClsAt K mg nm (ce.at k0)) (D : MethAt K (ce.at k0) "__init__" "Counting.__init__" s_Counting___init__ ["self", "name", "most"]) : MakAt P w K mg base (L2.CX P w) nm (ce.at k0) 4 ["self", "name", "most"] (spInitCo ce xc) := by
  have CX_End__init__ : ClsFn P w K mg base (L2.CX P w) ce.en "__init__" 3 ["self", "name"] (spInitEn ce xc) := body_en T X
  have e_NoEnd := X.e_end
  refine makAt_of c (methAt_okX c.cl D sc_Counting___init__ (fun vs H Q E h => ?_) (fun f cdv A outer s H vs Q E hr h => ?_))
  · obtain ⟨x, dx, k, n, m, rfl, _⟩ := h; rfl
  · obtain ⟨x, dx, k, n, m, rfl, hx, hk, hl, q, qn, qe⟩ := h
    refine ⟨_, (pss_cons (ps_expr (pe_clsF CX_End__init__ hr (passX (L2.takes_of rfl rfl rfl rfl)) (pe_cls T.c_End) (pa_cons (pv 0) (pa_cons (pv 1) pa_nil))))
        (pss_cons (ps_if (PW.pt (pw_or (pt_not (pt_val (pe_callB call_isInt (by rfl) T.z_isinstance (by decide +kernel) (pa_cons (pv 2) (pa_cons (pe_bltn (v := .ty "int") (by rfl) T.z_int (by decide +kernel) rfl) pa_nil))))) (pw_or (pt_val (pe_callB call_isBool (by rfl) T.z_isinstance (by decide +kernel) (pa_cons (pv 2) (pa_cons (pe_bltn (v := .ty "bool") (by rfl) T.z_bool (by decide +kernel) rfl) pa_nil)))) (pw_or1 (pt_not (pt_chain op_le op_le pe_int (pv 2) (pe_gc T.g_MOST_COUNT))))))) (pss_one (ps_raiseO rfl e_NoEnd (L2.takes_of rfl rfl rfl rfl))) pss_nil)
        (pss_one (ps_fld (pv 0) (pv 2) rfl)))), ?_⟩
    walk_at "rd"
    refine ⟨x, dx, k, n, rfl, hx, hl, fun hn H1 h1 b1 => ?_, fun hn => qn hn⟩
    unfold tChain
    walk_at "rd"
    by_cases m1 : 1 ≤ m
    · rw [decide_eq_true m1]
      by_cases m9 : m ≤ 9
      · rw [decide_eq_true m9]
        refine iteT (iteF ⟨_, rfl, _, rfl, x, _, dx, _, rfl, h1, T.cls k, T.nm k hk, (by show 1 < 1000; decide), ?_⟩)
        exact q hn m1 m9 _ upd_same (b1.trans But.upd)
      · rw [decide_eq_false m9]
        exact iteT (iteT (qe hn (fun z => m9 z.2) _ b1))
    · rw [decide_eq_false m1]
      exact iteF (qe hn (fun z => m1 z.1) _ b1)
/-! ### what making asks -/
theorem same_mkE {H : Hp} {x dx C : Addr} {fs : List (Str × V)} (nx : H x = none) (nd : H dx = none) : Same H (upd (upd H dx (.own x)) x (.ins C dx fs)) := fun b o e => by
  rw [upd_ne (ne_of_none e nx), upd_ne (ne_of_none e nd)]
  exact e
theorem mk_en {H : Hp} {k : Ek} {n : Str} {m : Int} {Q : VK} {E : XK} (hk : k.counts = false) (hl : n.length ≤ sizeLine) (q : isName n = true → ∀ (H' : Hp) (x : Addr), Same H H' → H x = none → IsE ce H' (.ref x) ⟨k, n, m⟩ → Q (.ref x) H') (qn : isName n = false → ∀ H', Same H H' → E (.ref xc.name) none H') :
    ∀ x dx, H x = none → H dx = none → dx ≠ x → spInitEn ce xc (.ref x :: ([.str n] ++ [])) (upd (upd H dx (.own x)) x (.ins (ce.at k) dx [])) (fun v H' => v = .non ∧ Q (.ref x) H') E :=
  fun x dx nx nd _ => ⟨x, dx, k, n, rfl, upd_same, hl, fun hn H' h1 h2 => ⟨rfl, q hn H' x (fun c o e => h2 c o (same_mkE nx nd c o e) (ne_of_none e nx)) nx ⟨x, dx, rfl, by unfold EndC.fs; rw [hk]; exact h1⟩⟩, fun hn => qn hn _ (same_mkE nx nd)⟩
theorem mk_co {H : Hp} {k : Ek} {n : Str} {m : Int} {Q : VK} {E : XK} (hk : k.counts = true) (hl : n.length ≤ sizeLine) (q : isName n = true → 1 ≤ m → m ≤ 9 → ∀ (H' : Hp) (x : Addr), Same H H' → H x = none → IsE ce H' (.ref x) ⟨k, n, m⟩ → Q (.ref x) H') (qn : isName n = false → ∀ H', Same H H' → E (.ref xc.name) none H')
    (qe : isName n = true → ¬ (1 ≤ m ∧ m ≤ 9) → ∀ H', Same H H' → E (.ref xc.end_) none H') :
    ∀ x dx, H x = none → H dx = none → dx ≠ x → spInitCo ce xc (.ref x :: ([.str n, .int m] ++ [])) (upd (upd H dx (.own x)) x (.ins (ce.at k) dx [])) (fun v H' => v = .non ∧ Q (.ref x) H') E :=
  fun x dx nx nd _ => ⟨x, dx, k, n, m, rfl, upd_same, hk, hl, fun hn m1 m9 H' h1 h2 => ⟨rfl, q hn m1 m9 H' x (fun c o e => h2 c o (same_mkE nx nd c o e) (ne_of_none e nx)) nx ⟨x, dx, rfl, by unfold EndC.fs; rw [hk]; exact h1⟩⟩, fun hn => qn hn _ (same_mkE nx nd), fun hn hm H' h2 => qe hn hm H' fun c o e => h2 c o (same_mkE nx nd c o e) (ne_of_none e nx)⟩
end

/-! ## isinstance of ends -/
structure TEnK (K : PySem.W.Frag) (mg : Str → Option Value) (ce : Ce) : Prop where
  ends : TEnds K mg ce
  o_coil_coil : PySem.W.kitOne K (.ref ce.coil) (.ref ce.coil) = some true
  o_coil_latch : PySem.W.kitOne K (.ref ce.coil) (.ref ce.latch) = some false
  o_coil_unlatch : PySem.W.kitOne K (.ref ce.coil) (.ref ce.unlatch) = some false
  o_coil_timer : PySem.W.kitOne K (.ref ce.coil) (.ref ce.timer) = some false
  o_coil_counter : PySem.W.kitOne K (.ref ce.coil) (.ref ce.counter) = some false
  o_latch_coil : PySem.W.kitOne K (.ref ce.latch) (.ref ce.coil) = some false
  o_latch_latch : PySem.W.kitOne K (.ref ce.latch) (.ref ce.latch) = some true
  o_latch_unlatch : PySem.W.kitOne K (.ref ce.latch) (.ref ce.unlatch) = some false
  o_latch_timer : PySem.W.kitOne K (.ref ce.latch) (.ref ce.timer) = some false
  o_latch_counter : PySem.W.kitOne K (.ref ce.latch) (.ref ce.counter) = some false
  o_unlatch_coil : PySem.W.kitOne K (.ref ce.unlatch) (.ref ce.coil) = some false
  o_unlatch_latch : PySem.W.kitOne K (.ref ce.unlatch) (.ref ce.latch) = some false
  o_unlatch_unlatch : PySem.W.kitOne K (.ref ce.unlatch) (.ref ce.unlatch) = some true
  o_unlatch_timer : PySem.W.kitOne K (.ref ce.unlatch) (.ref ce.timer) = some false
  o_unlatch_counter : PySem.W.kitOne K (.ref ce.unlatch) (.ref ce.counter) = some false
  o_timer_coil : PySem.W.kitOne K (.ref ce.timer) (.ref ce.coil) = some false
  o_timer_latch : PySem.W.kitOne K (.ref ce.timer) (.ref ce.latch) = some false
  o_timer_unlatch : PySem.W.kitOne K (.ref ce.timer) (.ref ce.unlatch) = some false
  o_timer_timer : PySem.W.kitOne K (.ref ce.timer) (.ref ce.timer) = some true
  o_timer_counter : PySem.W.kitOne K (.ref ce.timer) (.ref ce.counter) = some false
  o_counter_coil : PySem.W.kitOne K (.ref ce.counter) (.ref ce.coil) = some false
  o_counter_latch : PySem.W.kitOne K (.ref ce.counter) (.ref ce.latch) = some false
  o_counter_unlatch : PySem.W.kitOne K (.ref ce.counter) (.ref ce.unlatch) = some false
  o_counter_timer : PySem.W.kitOne K (.ref ce.counter) (.ref ce.timer) = some false
  o_counter_counter : PySem.W.kitOne K (.ref ce.counter) (.ref ce.counter) = some true
  o_coil_en : PySem.W.kitOne K (.ref ce.coil) (.ref ce.en) = some true
  o_latch_en : PySem.W.kitOne K (.ref ce.latch) (.ref ce.en) = some true
  o_unlatch_en : PySem.W.kitOne K (.ref ce.unlatch) (.ref ce.en) = some true
  o_timer_en : PySem.W.kitOne K (.ref ce.timer) (.ref ce.en) = some true
  o_counter_en : PySem.W.kitOne K (.ref ce.counter) (.ref ce.en) = some true
section
variable {K : PySem.W.Frag} {mg : Str → Option Value} {ce : Ce}
theorem TEnK.is_Coil (T : TEnK K mg ce) : Ru.IsT K ce.coil (fun C b => ∃ k : Ek, C = ce.at k ∧ b = decide (k = .coil)) := by
  rintro C b ⟨k, rfl, rfl⟩
  cases k
  · exact ⟨⟨_, _, T.ends.c_Coil⟩, T.o_coil_coil⟩
  · exact ⟨⟨_, _, T.ends.c_Latch⟩, T.o_latch_coil⟩
  · exact ⟨⟨_, _, T.ends.c_Unlatch⟩, T.o_unlatch_coil⟩
  · exact ⟨⟨_, _, T.ends.c_Timer⟩, T.o_timer_coil⟩
  · exact ⟨⟨_, _, T.ends.c_Counter⟩, T.o_counter_coil⟩
theorem TEnK.is_Latch (T : TEnK K mg ce) : Ru.IsT K ce.latch (fun C b => ∃ k : Ek, C = ce.at k ∧ b = decide (k = .latch)) := by
  rintro C b ⟨k, rfl, rfl⟩
  cases k
  · exact ⟨⟨_, _, T.ends.c_Coil⟩, T.o_coil_latch⟩
  · exact ⟨⟨_, _, T.ends.c_Latch⟩, T.o_latch_latch⟩
  · exact ⟨⟨_, _, T.ends.c_Unlatch⟩, T.o_unlatch_latch⟩
  · exact ⟨⟨_, _, T.ends.c_Timer⟩, T.o_timer_latch⟩
  · exact ⟨⟨_, _, T.ends.c_Counter⟩, T.o_counter_latch⟩
theorem TEnK.is_Unlatch (T : TEnK K mg ce) : Ru.IsT K ce.unlatch (fun C b => ∃ k : Ek, C = ce.at k ∧ b = decide (k = .unlatch)) := by
  rintro C b ⟨k, rfl, rfl⟩
  cases k
  · exact ⟨⟨_, _, T.ends.c_Coil⟩, T.o_coil_unlatch⟩
  · exact ⟨⟨_, _, T.ends.c_Latch⟩, T.o_latch_unlatch⟩
  · exact ⟨⟨_, _, T.ends.c_Unlatch⟩, T.o_unlatch_unlatch⟩
  · exact ⟨⟨_, _, T.ends.c_Timer⟩, T.o_timer_unlatch⟩
  · exact ⟨⟨_, _, T.ends.c_Counter⟩, T.o_counter_unlatch⟩
theorem TEnK.is_Timer (T : TEnK K mg ce) : Ru.IsT K ce.timer (fun C b => ∃ k : Ek, C = ce.at k ∧ b = decide (k = .timer)) := by
  rintro C b ⟨k, rfl, rfl⟩
  cases k
  · exact ⟨⟨_, _, T.ends.c_Coil⟩, T.o_coil_timer⟩
  · exact ⟨⟨_, _, T.ends.c_Latch⟩, T.o_latch_timer⟩
  · exact ⟨⟨_, _, T.ends.c_Unlatch⟩, T.o_unlatch_timer⟩
  · exact ⟨⟨_, _, T.ends.c_Timer⟩, T.o_timer_timer⟩
  · exact ⟨⟨_, _, T.ends.c_Counter⟩, T.o_counter_timer⟩
theorem TEnK.is_Counter (T : TEnK K mg ce) : Ru.IsT K ce.counter (fun C b => ∃ k : Ek, C = ce.at k ∧ b = decide (k = .counter)) := by
  rintro C b ⟨k, rfl, rfl⟩
  cases k
  · exact ⟨⟨_, _, T.ends.c_Coil⟩, T.o_coil_counter⟩
  · exact ⟨⟨_, _, T.ends.c_Latch⟩, T.o_latch_counter⟩
  · exact ⟨⟨_, _, T.ends.c_Unlatch⟩, T.o_unlatch_counter⟩
  · exact ⟨⟨_, _, T.ends.c_Timer⟩, T.o_timer_counter⟩
  · exact ⟨⟨_, _, T.ends.c_Counter⟩, T.o_counter_counter⟩
theorem TEnK.is_End (T : TEnK K mg ce) : Ru.IsT K ce.en (fun C b => (∃ k : Ek, C = ce.at k) ∧ b = true) := by
  rintro C b ⟨⟨k, rfl⟩, rfl⟩
  cases k
  · exact ⟨⟨_, _, T.ends.c_Coil⟩, T.o_coil_en⟩
  · exact ⟨⟨_, _, T.ends.c_Latch⟩, T.o_latch_en⟩
  · exact ⟨⟨_, _, T.ends.c_Unlatch⟩, T.o_unlatch_en⟩
  · exact ⟨⟨_, _, T.ends.c_Timer⟩, T.o_timer_en⟩
  · exact ⟨⟨_, _, T.ends.c_Counter⟩, T.o_counter_en⟩
theorem TEnK.c_Coil (T : TEnK K mg ce) : ClsAt K mg "Coil" ce.coil := T.ends.c_Coil
theorem TEnK.c_Latch (T : TEnK K mg ce) : ClsAt K mg "Latch" ce.latch := T.ends.c_Latch
theorem TEnK.c_Unlatch (T : TEnK K mg ce) : ClsAt K mg "Unlatch" ce.unlatch := T.ends.c_Unlatch
theorem TEnK.c_Timer (T : TEnK K mg ce) : ClsAt K mg "Timer" ce.timer := T.ends.c_Timer
theorem TEnK.c_Counter (T : TEnK K mg ce) : ClsAt K mg "Counter" ce.counter := T.ends.c_Counter
theorem TEnK.c_End (T : TEnK K mg ce) : ClsAt K mg "End" ce.en := T.ends.c_End
theorem TEnK.z_isinstance (T : TEnK K mg ce) : mg "isinstance" = none := T.ends.z_isinstance
end
def Ek.ix : Ek → Int
  | .coil => 0
  | .latch => 1
  | .unlatch => 2
  | .timer => 3
  | .counter => 4
theorem Ek.of_ix {i : Int} (h0 : 0 ≤ i) (h1 : i < 5) : ∃ k : Ek, k.ix = i := by
  rcases (by omega : i = 0 ∨ i = 1 ∨ i = 2 ∨ i = 3 ∨ i = 4) with rfl | rfl | rfl | rfl | rfl
  · exact ⟨.coil, rfl⟩
  · exact ⟨.latch, rfl⟩
  · exact ⟨.unlatch, rfl⟩
  · exact ⟨.timer, rfl⟩
  · exact ⟨.counter, rfl⟩
theorem app_assoc (a b c : Str) : a ++ b ++ c = a ++ (b ++ c) := by
  show Str.append (Str.append a b) c = Str.append a (Str.append b c)
  simp [Str.append, Array.append_assoc]
theorem app_empty (a : Str) : a ++ ("" : Str) = a := by
  have e : ("" : Str) = ⟨#[]⟩ := by decide +kernel
  rw [e]
  show Str.append a ⟨#[]⟩ = a
  simp [Str.append]

/-! ## ladders: the plain side -/
structure Rg where
  c : Cond
  e : EndC
structure Lad where
  ins : List Str
  outs : List Str
  rs : List Rg
/-- a name more, where it is not yet there -/
def addW (l : List Str) (n : Str) : List Str := if n ∈ l then l else l ++ [n]
/-- the names that rungs write, each once -/
def writ (rs : List Rg) : List Str := rs.foldl (fun l r => addW l r.e.n) []
/-- what stands at a name in need_own -/
def bears (n : Str) (rs : List Rg) : List Bool := (rs.filter fun r => decide (r.e.n = n) && !decide (r.e.k = .unlatch)).map fun r => r.e.k.counts
def crowd (rs : List Rg) : Bool := rs.any fun r => decide (1 < (bears r.e.n rs).length) && (bears r.e.n rs).any id
def Lad.named (l : Lad) : Bool := (l.ins ++ l.outs).all isName
def Lad.fair (l : Lad) : Bool := decide (l.ins.length ≤ 6) && decide l.ins.Nodup && decide (1 ≤ l.outs.length ∧ l.outs.length ≤ 6) && decide l.outs.Nodup && decide (1 ≤ l.rs.length ∧ l.rs.length ≤ 30) &&
  l.ins.all (fun n => !decide (n ∈ writ l.rs)) && l.outs.all (fun n => decide (n ∈ writ l.rs)) && !crowd l.rs && decide ((writ l.rs).length ≤ 20)
theorem addW_mem {l : List Str} {n x : Str} : x ∈ addW l n ↔ x ∈ l ∨ x = n := by
  unfold addW
  split
  · constructor
    · exact .inl
    · rintro (h | rfl)
      · exact h
      · assumption
  · simp
theorem addW_nodup {l : List Str} {n : Str} (h : l.Nodup) : (addW l n).Nodup := by
  unfold addW
  split
  · exact h
  · rw [List.nodup_append]
    refine ⟨h, by simp, fun a ha b hb e => ?_⟩
    rw [List.mem_singleton.mp hb] at e
    subst e
    contradiction
theorem addW_len (l : List Str) (n : Str) : (addW l n).length ≤ l.length + 1 := by
  unfold addW
  split <;> simp
theorem writ_snoc (rs : List Rg) (r : Rg) : writ (rs ++ [r]) = addW (writ rs) r.e.n := by
  unfold writ
  rw [List.foldl_append]
  rfl
theorem writ_ind {p : List Rg → Prop} (h0 : p []) (hs : ∀ rs r, p rs → p (rs ++ [r])) : ∀ rs, p rs := by
  have h : ∀ n (rs : List Rg), rs.length = n → p rs := by
    intro n
    induction n with
    | zero =>
      intro rs h
      rw [List.length_eq_zero_iff.mp h]
      exact h0
    | succ n ih =>
      intro rs h
      have hne : rs ≠ [] := by intro e; rw [e] at h; simp at h
      rw [← List.dropLast_concat_getLast hne]
      exact hs _ _ (ih _ (by rw [List.length_dropLast, h]; rfl))
  exact fun rs => h _ rs rfl
theorem writ_mem {x : Str} (rs : List Rg) : x ∈ writ rs ↔ ∃ r ∈ rs, r.e.n = x := by
  refine writ_ind (p := fun rs => x ∈ writ rs ↔ ∃ r ∈ rs, r.e.n = x) (by simp [writ]) (fun rs r ih => ?_) rs
  rw [writ_snoc, addW_mem, ih]
  constructor
  · rintro (⟨q, hq, e⟩ | rfl)
    · exact ⟨q, List.mem_append_left _ hq, e⟩
    · exact ⟨r, by simp, rfl⟩
  · rintro ⟨q, hq, e⟩
    rcases List.mem_append.mp hq with hq | hq
    · exact .inl ⟨q, hq, e⟩
    · rw [List.mem_singleton.mp hq] at e
      exact .inr e.symm
theorem writ_nodup (rs : List Rg) : (writ rs).Nodup := writ_ind (p := fun rs => (writ rs).Nodup) (by simp [writ]) (fun rs r ih => by rw [writ_snoc]; exact addW_nodup ih) rs
theorem writ_len (rs : List Rg) : (writ rs).length ≤ rs.length := writ_ind (p := fun rs => (writ rs).length ≤ rs.length) (by simp [writ]) (fun rs r ih => by
  rw [writ_snoc, List.length_append]
  have := addW_len (writ rs) r.e.n
  simp
  omega) rs
theorem writ_pos {rs : List Rg} (h : rs ≠ []) : 1 ≤ (writ rs).length := by
  obtain ⟨r, l, rfl⟩ := List.exists_cons_of_ne_nil h
  have : r.e.n ∈ writ (r :: l) := (writ_mem _).mpr ⟨r, by simp, rfl⟩
  exact List.length_pos_of_mem this
def nmW (l : List Str) : List (Key × V) := l.map fun n => (.inr n, .bl true)
theorem nmW_any (n : Str) : ∀ l : List Str, ((nmW l).any fun kv => decide (kv.1 = (Sum.inr n : Key))) = decide (n ∈ l)
  | [] => by simp [nmW]
  | x :: l => by
    have ih := nmW_any n l
    unfold nmW at ih ⊢
    rw [List.map_cons, List.any_cons, ih, Bool.eq_iff_iff]
    simp only [Bool.or_eq_true, decide_eq_true_eq, List.mem_cons]
    constructor
    · rintro (h | h)
      · injection h with h
        exact .inl h.symm
      · exact .inr h
    · rintro (rfl | h)
      · exact .inl rfl
      · exact .inr h
theorem nmW_put (l : List Str) (n : Str) : putK (nmW l) (Sum.inr n : Key) (.bl true) = nmW (addW l n) := by
  unfold putK addW
  rw [nmW_any]
  by_cases h : n ∈ l
  · rw [decide_eq_true h, if_pos rfl, if_pos h]
    unfold nmW
    rw [List.map_map]
    apply List.map_congr_left
    intro x _
    simp only [Function.comp]
    split <;> rfl
  · rw [decide_eq_false h, if_neg (by decide), if_neg h]
    simp [nmW]
theorem bears_snoc (n : Str) (rs : List Rg) (r : Rg) : bears n (rs ++ [r]) = if (decide (r.e.n = n) && !decide (r.e.k = .unlatch)) = true then bears n rs ++ [r.e.k.counts] else bears n rs := by
  unfold bears
  rw [List.filter_append, List.map_append]
  simp only [List.filter_cons, List.filter_nil]
  split <;> simp
/-! ## ladders: the objects -/
structure Cs where
  cl : Cl
  ce : Ce
  rg : Addr
  ld : Addr
def Cs.has (cs : Cs) (C : Addr) : Prop := cs.cl.has C ∨ cs.ce.has C ∨ C = cs.rg ∨ C = cs.ld
def IsR (cs : Cs) (H : Hp) (v : V) (r : Rg) : Prop := ∃ a dx p q, v = .ref a ∧ H a = some (.ins cs.rg dx [("part", p), ("end", q)]) ∧ IsP cs.cl H p r.c ∧ IsE cs.ce H q r.e
def IsL (K : PySem.W.Frag) (cs : Cs) (H : Hp) (v : V) (l : Lad) : Prop := ∃ a dx ti tt tr ws, v = .ref a ∧ H a = some (.ins cs.ld dx [("inputs", .ref ti), ("outputs", .ref tt), ("rungs", .ref tr)]) ∧ Tp K H ti (l.ins.map V.str) ∧ Tp K H tt (l.outs.map V.str) ∧ Tp K H tr ws ∧ Two (IsR cs H) ws l.rs
theorem IsR.mono {cs : Cs} {H H' : Hp} (k : Imm cs.has H H') {v : V} {r : Rg} (p : IsR cs H v r) : IsR cs H' v r := by
  obtain ⟨a, dx, x, y, e, h, px, py⟩ := p
  exact ⟨a, dx, x, y, e, k _ _ h (.inr (.inr (.inl rfl))), px.mono (k.less fun _ q => .inl q), py.mono (k.less fun _ q => .inr (.inl q))⟩
theorem IsL.mono {K : PySem.W.Frag} {cs : Cs} {H H' : Hp} (k : Imm cs.has H H') {v : V} {l : Lad} (p : IsL K cs H v l) : IsL K cs H' v l := by
  obtain ⟨a, dx, ti, tt, tr, ws, e, h, h1, h2, h3, h4⟩ := p
  exact ⟨a, dx, ti, tt, tr, ws, e, k _ _ h (.inr (.inr (.inr rfl))), h1.mono k, h2.mono k, h3.mono k, h4.mono fun _ _ q => q.mono k⟩

--%% M5
/-! ## ladders: made -/
abbrev s_Rung___init__ : Stmt := inClass (top 48) 0
theorem sc_Rung___init__ : FnScope ["self", "part", "end"] ["self", "part", "end"] (defScope s_Rung___init__) := ⟨rfl, rfl, rfl, by decide +kernel, rfl, by decide +kernel, by decide +kernel⟩
abbrev s_need_between : Stmt := top 49
theorem sc_need_between : FnScope ["things", "least", "most"] ["things", "least", "most"] (defScope s_need_between) := ⟨rfl, rfl, rfl, by decide +kernel, rfl, by decide +kernel, by decide +kernel⟩
abbrev s_need_single : Stmt := top 50
theorem sc_need_single : FnScope ["names"] ["names"] (defScope s_need_single) := ⟨rfl, rfl, rfl, by decide +kernel, rfl, by decide +kernel, by decide +kernel⟩
abbrev s_need_own : Stmt := top 51
theorem sc_need_own : FnScope ["rungs", "bearers", "rung", "name", "counts"] ["rungs"] (defScope s_need_own) := ⟨rfl, rfl, rfl, by decide +kernel, rfl, by decide +kernel, by decide +kernel⟩
abbrev s_Ladder___init__ : Stmt := inClass (top 52) 0
theorem sc_Ladder___init__ : FnScope ["self", "inputs", "outputs", "rungs", "name", "names"] ["self", "inputs", "outputs", "rungs"] (defScope s_Ladder___init__) := ⟨rfl, rfl, rfl, by decide +kernel, rfl, by decide +kernel, by decide +kernel⟩
abbrev s_Ladder_written_names : Stmt := inClass (top 52) 1
theorem sc_Ladder_written_names : FnScope ["self", "found", "rung"] ["self"] (defScope s_Ladder_written_names) := ⟨rfl, rfl, rfl, by decide +kernel, rfl, by decide +kernel, by decide +kernel⟩
structure TLad (K : PySem.W.Frag) (mg : Str → Option Value) (cs : Cs) (cc : Addr) (xc : Xc) : Prop where
  enk : TEnK K mg cs.ce
  exs : TExs K mg xc
  c_Rung : ClsAt K mg "Rung" cs.rg
  c_Ladder : ClsAt K mg "Ladder" cs.ld
  c_Counting : ClsAt K mg "Counting" cc
  q_coil : PySem.W.kitOne K (.ref cs.ce.coil) (.ref cc) = some false
  q_latch : PySem.W.kitOne K (.ref cs.ce.latch) (.ref cc) = some false
  q_unlatch : PySem.W.kitOne K (.ref cs.ce.unlatch) (.ref cc) = some false
  q_timer : PySem.W.kitOne K (.ref cs.ce.timer) (.ref cc) = some true
  q_counter : PySem.W.kitOne K (.ref cs.ce.counter) (.ref cc) = some true
  np_rg : NoAttr K cs.rg "part"
  ne_rg : NoAttr K cs.rg "end"
  ni_ld : NoAttr K cs.ld "inputs"
  no_ld : NoAttr K cs.ld "outputs"
  nr_ld : NoAttr K cs.ld "rungs"
  d_between : DefAt K mg "need_between" s_need_between ["things", "least", "most"]
  d_single : DefAt K mg "need_single" s_need_single ["names"]
  d_own : DefAt K mg "need_own" s_need_own ["rungs"]
  i_rg : MethAt K cs.rg "__init__" "Rung.__init__" s_Rung___init__ ["self", "part", "end"]
  i_ld : MethAt K cs.ld "__init__" "Ladder.__init__" s_Ladder___init__ ["self", "inputs", "outputs", "rungs"]
  m_written : MethAt K cs.ld "written_names" "Ladder.written_names" s_Ladder_written_names ["self"]
  z_len : mg "len" = none
  z_set : mg "set" = none
  z_tuple : mg "tuple" = none
  z_any : mg "any" = none
  z_isinstance : mg "isinstance" = none
  g_MOST_NAMES_ladders : GlobC mg "MOST_NAMES_ladders" (.int 6)
  g_MOST_RUNGS : GlobC mg "MOST_RUNGS" (.int 30)
  g_MOST_WRITTEN : GlobC mg "MOST_WRITTEN" (.int 20)
section
variable {P : Program} {w : World} {K : PySem.W.Frag} {mg : Str → Option Value} {base : Heap} {cs : Cs} {cc : Addr} {xc : Xc}
theorem TLad.is_Counting (T : TLad K mg cs cc xc) : Ru.IsT K cc (fun C b => ∃ k : Ek, C = cs.ce.at k ∧ b = k.counts) := by
  rintro C b ⟨k, rfl, rfl⟩
  cases k
  · exact ⟨⟨_, _, T.enk.ends.c_Coil⟩, T.q_coil⟩
  · exact ⟨⟨_, _, T.enk.ends.c_Latch⟩, T.q_latch⟩
  · exact ⟨⟨_, _, T.enk.ends.c_Unlatch⟩, T.q_unlatch⟩
  · exact ⟨⟨_, _, T.enk.ends.c_Timer⟩, T.q_timer⟩
  · exact ⟨⟨_, _, T.enk.ends.c_Counter⟩, T.q_counter⟩
theorem TLad.is_Unlatch (T : TLad K mg cs cc xc) : Ru.IsT K cs.ce.unlatch (fun C b => ∃ k : Ek, C = cs.ce.at k ∧ b = decide (k = .unlatch)) := T.enk.is_Unlatch
theorem TLad.c_Unlatch (T : TLad K mg cs cc xc) : ClsAt K mg "Unlatch" cs.ce.unlatch := T.enk.c_Unlatch
theorem lkR1 {x y : V} : List.lookup ("part" : Str) [(("part" : Str), x), (("end" : Str), y)] = some x := by simp [List.lookup]
theorem lkR2 {x y : V} : List.lookup ("end" : Str) [(("part" : Str), x), (("end" : Str), y)] = some y := by
  have e : (("end" : Str) == ("part" : Str)) = false := by decide +kernel
  simp [List.lookup, e]
theorem lkL1 {x y z : V} : List.lookup ("inputs" : Str) [(("inputs" : Str), x), (("outputs" : Str), y), (("rungs" : Str), z)] = some x := by simp [List.lookup]
theorem lkL2 {x y z : V} : List.lookup ("outputs" : Str) [(("inputs" : Str), x), (("outputs" : Str), y), (("rungs" : Str), z)] = some y := by
  have e : (("outputs" : Str) == ("inputs" : Str)) = false := by decide +kernel
  simp [List.lookup, e]
theorem lkL3 {x y z : V} : List.lookup ("rungs" : Str) [(("inputs" : Str), x), (("outputs" : Str), y), (("rungs" : Str), z)] = some z := by
  have e : (("rungs" : Str) == ("inputs" : Str)) = false := by decide +kernel
  have e2 : (("rungs" : Str) == ("outputs" : Str)) = false := by decide +kernel
  simp [List.lookup, e, e2]
theorem lkLw {x y z : V} : List.lookup ("written_names" : Str) [(("inputs" : Str), x), (("outputs" : Str), y), (("rungs" : Str), z)] = none := by
  have e : (("written_names" : Str) == ("inputs" : Str)) = false := by decide +kernel
  have e2 : (("written_names" : Str) == ("outputs" : Str)) = false := by decide +kernel
  have e3 : (("written_names" : Str) == ("rungs" : Str)) = false := by decide +kernel
  simp [List.lookup, e, e2, e3]
theorem all_flatS : ∀ l : List Str, (l.map V.str).all flatV = true
  | [] => rfl
  | _ :: l => all_flatS l
theorem Same.imm0 {H H' : Hp} (s : Same H H') : Imm (fun _ => False) H H' := Same.imm s
def spInitRg (cs : Cs) : Sp := fun vs H Q _ => ∃ (x dx : Addr) (p q : V), vs = [.ref x, p, q] ∧ H x = some (.ins cs.rg dx []) ∧ ∀ H' : Hp, H' x = some (.ins cs.rg dx [("part", p), ("end", q)]) → But x H H' → Q .non H'
theorem ok_init_rg (T : TLad K mg cs cc xc) : MakAt P w K mg base CX0 "Rung" cs.rg 1 ["self", "part", "end"] (spInitRg cs) := by
  refine makAt_of T.c_Rung (methAt_ok T.c_Rung.cl T.i_rg sc_Rung___init__ (fun vs H Q E h => ?_) (fun f cdv A outer s H vs Q E hr h => ?_))
  · obtain ⟨x, dx, p, q, rfl, _⟩ := h; rfl
  · obtain ⟨x, dx, p, q, rfl, hx, k⟩ := h
    refine ⟨_, (pss_cons (ps_fld (pv 0) (pv 1) rfl)
        (pss_one (ps_fld (pv 0) (pv 2) rfl))), ?_⟩
    refine ⟨_, rfl, _, rfl, x, _, dx, [], rfl, hx, T.c_Rung.cl, T.np_rg, (by show 0 < 1000; decide), ?_⟩
    refine ⟨_, rfl, _, rfl, x, _, dx, _, rfl, upd_same, T.c_Rung.cl, T.ne_rg, (by show 1 < 1000; decide), ?_⟩
    exact k _ upd_same (But.upd.trans But.upd)
def spBetween (K : PySem.W.Frag) (xc : Xc) : Sp := fun vs H Q E => ∃ (t : Addr) (ws : List V) (a b : Int), vs = [.ref t, .int a, .int b] ∧ SqT K H t ws ∧ (a ≤ ws.length ∧ (ws.length : Int) ≤ b → Q .non H) ∧ (¬ (a ≤ ws.length ∧ (ws.length : Int) ≤ b) → E (.ref xc.ladder) none H)
theorem ok_between (T : TLad K mg cs cc xc) : FnAt P w K mg base (L2.CX P w) "need_between" 1 ["things", "least", "most"] (spBetween K xc) := by
  have e_NoLadder := T.exs.e_ladder
  refine fnAt_okX T.d_between sc_need_between (fun vs H Q E h => ?_) (fun f cdv A outer s H vs Q E hr h => ?_)
  · obtain ⟨t, ws, a, b, rfl, _⟩ := h; rfl
  · obtain ⟨t, ws, a, b, rfl, ht, q, qx⟩ := h
    refine ⟨_, (pss_one (ps_if (pt_not (pt_chain op_le op_le (pv 1) (pe_callB call_len_seq (by rfl) T.z_len PySem.boot_len (pa_cons (pv 0) pa_nil)) (pv 2))) (pss_one (ps_raiseO rfl e_NoLadder (L2.takes_of rfl rfl rfl rfl))) pss_nil)), ?_⟩
    unfold tChain
    walk_at "rd"
    refine ⟨ws, .inr ht, ?_⟩
    by_cases h1 : a ≤ ws.length
    · rw [decide_eq_true h1]
      by_cases h2 : (ws.length : Int) ≤ b
      · rw [decide_eq_true h2]
        exact iteT (iteF (q ⟨h1, h2⟩))
      · rw [decide_eq_false h2]
        exact iteT (iteT (qx fun z => h2 z.2))
    · rw [decide_eq_false h1]
      exact iteF (qx fun z => h1 z.1)
def spSingleN (K : PySem.W.Frag) (xc : Xc) : Sp := fun vs H Q E => ∃ (t : Addr) (xs : List Str), vs = [.ref t] ∧ SqT K H t (xs.map V.str) ∧ xs.length ≤ 1000 ∧ (xs.Nodup → Q .non H) ∧ (¬ xs.Nodup → E (.ref xc.ladder) none H)
theorem ok_single1 (T : TLad K mg cs cc xc) : FnAt P w K mg base (L2.CX P w) "need_single" 1 ["names"] (spSingleN K xc) := by
  have e_NoLadder := T.exs.e_ladder
  refine fnAt_okX T.d_single sc_need_single (fun vs H Q E h => ?_) (fun f cdv A outer s H vs Q E hr h => ?_)
  · obtain ⟨t, xs, rfl, _⟩ := h; rfl
  · obtain ⟨t, xs, rfl, ht, hl, q, qx⟩ := h
    refine ⟨_, (pss_one (ps_if (pt_cmpR op_ne (pe_lenSetS rfl (by rfl) T.z_len (by rfl) T.z_set (pv 0)) (pe_callB call_len_seq (by rfl) T.z_len PySem.boot_len (pa_cons (pv 0) pa_nil)) (nomark _)) (pss_one (ps_raiseO rfl e_NoLadder (L2.takes_of rfl rfl rfl rfl))) pss_nil)), ?_⟩
    walk_at "rd"
    refine ⟨_, rfl, t, xs, rfl, .inr ht, hl, fun n hn hx => ⟨_, .inr ht, scal_ii, ?_⟩⟩
    rw [List.length_map]
    by_cases hd : xs.Nodup
    · rw [decide_eq_true (by rw [hx.mpr hd])]
      exact iteF (q hd)
    · rw [decide_eq_false (fun e => hd (hx.mp (by injection e with e; omega)))]
      exact iteT (qx hd)
def spWrit (K : PySem.W.Frag) (cs : Cs) : Sp := fun vs H Q _ => ∃ (v : V) (l : Lad), vs = [v] ∧ IsL K cs H v l ∧ l.rs.length ≤ 1000 ∧ ∀ (H' : Hp) (p : Addr), Same H H' → H' p = some (.tup ((writ l.rs).map V.str)) → Q (.ref p) H'
theorem disp_written (T : TLad K mg cs cc xc) : DispAt P w K mg base CX0 (fun C => C = cs.ld) "written_names" 1 ["self"] (fun _ => spWrit K cs) := by
  refine ⟨fun C hC => ?_⟩
  subst hC
  refine methAt_ok T.c_Ladder.cl T.m_written sc_Ladder_written_names (fun vs H Q E h => ?_) (fun f cdv A outer s H vs Q E hr h => ?_)
  · obtain ⟨v, l, rfl, _⟩ := h; rfl
  · obtain ⟨v, l, rfl, p, hl, k⟩ := h
    have hu := hu_of hr
    obtain ⟨a, dx, ti, tt, tr, ws, rfl, ha, h1, h2, h3, h4⟩ := p
    have hlen := h4.length
    refine ⟨_, (pss_cons (ps_set (i := 1) sc_Ladder_written_names.nd rfl (by first | exact Or.inl rfl | exact Or.inr rfl) pe_dnewK)
        (pss_cons (ps_for PassesOwn.never rfl (pi_tup (pe_fld (pv 0) rfl)) (pg_name (i := 2) sc_Ladder_written_names.nd rfl (by first | exact Or.inl rfl | exact Or.inr rfl)) (pss_one (ps_dput hu (pv 1) (pe_fld (pe_fld (pv 2) rfl) rfl) pe_bl rfl)))
        (pss_one (ps_ret (pe_tupKeys T.z_tuple (pv 1)))))), ?_⟩
    walk_at "rd"
    refine fun d nd => ⟨_, rfl, a, _, dx, _, _, rfl, Same.new nd _ _ ha, T.c_Ladder.cl, T.nr_ld, lkL3, tr, rfl, ⟨_, (h3.mono (Same.imm0 (Same.new nd))).seq⟩,
      for_tup (K := K) (a := tr) (xs := ws) (fun i σ H' => ∃ v2 : Option V, σ = [some (.ref a), some (.ref d), v2] ∧ Same H H' ∧ H' d = some (.dK (nmW (writ (l.rs.take i))))) ⟨none, rfl, Same.new nd, upd_same⟩ (fun i σ H' _ ⟨_, _, s, _⟩ => (h3.mono (Same.imm0 s)).seq) ?_ ?_⟩
    · rintro i x σ H' hx ⟨v2, rfl, s1, hd⟩
      obtain ⟨r, hr', x', dx', p', q', rfl, hx', _, hq'⟩ := h4.at hx
      obtain ⟨e, dx2, rfl, he⟩ := hq'
      have hi := List.getElem?_eq_some_iff.mp hr'
      have hw := writ_len (l.rs.take i)
      rw [List.length_take] at hw
      refine ⟨_, rfl, _, rfl, x', _, dx', _, _, rfl, s1 _ _ hx', T.c_Rung.cl, T.ne_rg, lkR2, e, _, dx2, _, _, rfl, s1 _ _ he, T.enk.ends.cls _, T.enk.ends.nn _, E_name _, d, _, rfl, DPut.k (k := .inr r.e.n) hd ?_, _, rfl, Same.mut s1 nd, ?_⟩
      · rw [nmW, List.length_map, sizeLine_eq]
        omega
      · rw [upd_same, nmW_put, List.take_succ, hr']
        show _ = some (HO.dK (nmW (writ (_ ++ [r]))))
        rw [writ_snoc]
    · rintro σ H' ⟨v2, rfl, s1, hd⟩
      rw [hlen, List.take_length] at hd
      refine ⟨_, rfl, d, _, rfl, hd, fun q nq => k _ q (s1.trans (Same.new nq)) ?_⟩
      rw [upd_same, nmW, List.map_map]
      rfl
/-! ### need_own: what ends bear a name -/
def bk (ls : List (Str × Addr)) : List (Key × V) := ls.map fun p => (.inr p.1, .ref p.2)
theorem bk_some {n : Str} {v : V} : ∀ {ls : List (Str × Addr)}, valV (bk ls) (Sum.inr n : Key) = some v → ∃ a, (n, a) ∈ ls ∧ v = .ref a
  | [], h => by cases h
  | (x, a) :: ls, h => by
    by_cases e : x = n
    · subst e
      have h2 : valV (bk ((x, a) :: ls)) (Sum.inr x : Key) = some (.ref a) := valV_pos rfl
      rw [h2] at h
      cases h
      exact ⟨a, List.mem_cons_self, rfl⟩
    · have h2 : valV (bk ((x, a) :: ls)) (Sum.inr n : Key) = valV (bk ls) (Sum.inr n : Key) := valV_neg fun q => e (by injection q)
      rw [h2] at h
      obtain ⟨b, hb, ev⟩ := bk_some h
      exact ⟨b, List.mem_cons_of_mem _ hb, ev⟩
theorem bk_none {n : Str} : ∀ {ls : List (Str × Addr)}, valV (bk ls) (Sum.inr n : Key) = none → n ∉ ls.map (·.1)
  | [], _ => by simp
  | (x, a) :: ls, h => by
    by_cases e : x = n
    · subst e
      have h2 : valV (bk ((x, a) :: ls)) (Sum.inr x : Key) = some (.ref a) := valV_pos rfl
      rw [h2] at h
      cases h
    · have h2 : valV (bk ((x, a) :: ls)) (Sum.inr n : Key) = valV (bk ls) (Sum.inr n : Key) := valV_neg fun q => e (by injection q)
      rw [h2] at h
      have := bk_none h
      simp only [List.map_cons, List.mem_cons, not_or]
      exact ⟨fun q => e q.symm, this⟩
structure Bear (H0 H : Hp) (d : Addr) (rs : List Rg) (ls : List (Str × Addr)) : Prop where
  dict : H d = some (.dK (bk ls))
  nd : (ls.map (·.1)).Nodup
  nda : (ls.map (·.2)).Nodup
  at_ : ∀ p ∈ ls, H p.2 = some (.lst ((bears p.1 rs).map V.bl)) ∧ H0 p.2 = none ∧ p.2 ≠ d
  all_ : ∀ r ∈ rs, r.e.k ≠ .unlatch → r.e.n ∈ ls.map (·.1)
  len : ls.length ≤ rs.length
theorem bears_nil {n : Str} {rs : List Rg} (h : ∀ r ∈ rs, r.e.k ≠ .unlatch → r.e.n ≠ n) : bears n rs = [] := by
  unfold bears
  rw [List.filter_eq_nil_iff.mpr]
  · rfl
  · intro r hr q
    simp only [Bool.and_eq_true, decide_eq_true_eq, Bool.not_eq_true', decide_eq_false_iff_not] at q
    exact h r hr q.2 q.1
theorem bears_len (n : Str) (rs : List Rg) : (bears n rs).length ≤ rs.length := by
  unfold bears
  rw [List.length_map]
  exact List.length_filter_le _ _
theorem nodup_key {α β : Type} {f : α → β} : ∀ {l : List α} {a b : α}, (l.map f).Nodup → a ∈ l → b ∈ l → f a = f b → a = b
  | x :: l, a, b, h, ha, hb, e => by
    rw [List.map_cons, List.nodup_cons] at h
    rcases List.mem_cons.mp ha with ea | ha2
    · rcases List.mem_cons.mp hb with eb | hb2
      · rw [ea, eb]
      · exact absurd (List.mem_map.mpr ⟨b, hb2, by rw [← e, ea]⟩) h.1
    · rcases List.mem_cons.mp hb with eb | hb2
      · exact absurd (List.mem_map.mpr ⟨a, ha2, by rw [e, eb]⟩) h.1
      · exact nodup_key h.2 ha2 hb2 e
/-- an unlatch bears nothing -/
theorem Bear.pass {H0 H : Hp} {d : Addr} {rs : List Rg} {ls : List (Str × Addr)} {r : Rg} (b : Bear H0 H d rs ls) (h : r.e.k = .unlatch) : Bear H0 H d (rs ++ [r]) ls := by
  refine ⟨b.dict, b.nd, b.nda, fun p hp => ?_, fun q hq hk => ?_, by rw [List.length_append]; have := b.len; omega⟩
  · rw [bears_snoc, if_neg (by rw [decide_eq_true h]; simp)]
    exact b.at_ p hp
  · rcases List.mem_append.mp hq with hq | hq
    · exact b.all_ q hq hk
    · rw [List.mem_singleton.mp hq] at hk
      exact absurd h hk
/-- one more at a name that stands there -/
theorem Bear.more {H0 H H1 : Hp} {d a : Addr} {rs : List Rg} {ls : List (Str × Addr)} {r : Rg} (b : Bear H0 H d rs ls) (s : Same H H1) (h : r.e.k ≠ .unlatch) (ha : (r.e.n, a) ∈ ls) :
    H1 a = some (.lst ((bears r.e.n rs).map V.bl)) ∧ Bear H0 (upd H1 a (.lst ((bears r.e.n rs).map V.bl ++ [.bl r.e.k.counts]))) d (rs ++ [r]) ls := by
  obtain ⟨h1, h2, h3⟩ := b.at_ _ ha
  refine ⟨s _ _ h1, ⟨by rw [upd_ne h3.symm]; exact s _ _ b.dict, b.nd, b.nda, fun p hp => ?_, fun q hq hk => ?_, by rw [List.length_append]; have := b.len; omega⟩⟩
  · obtain ⟨g1, g2, g3⟩ := b.at_ p hp
    refine ⟨?_, g2, g3⟩
    by_cases e : p.1 = r.e.n
    · have ep : p = (r.e.n, a) := nodup_key b.nd hp ha e
      subst ep
      rw [upd_same, bears_snoc, if_pos (by rw [decide_eq_true rfl, decide_eq_false h]; rfl), List.map_append]
      rfl
    · have ne : p.2 ≠ a := fun q => e (by rw [nodup_key (f := Prod.snd) b.nda hp ha q])
      rw [upd_ne ne, bears_snoc, if_neg (by rw [decide_eq_false fun q => e q.symm]; simp)]
      exact s _ _ g1
  · rcases List.mem_append.mp hq with hq | hq
    · exact b.all_ q hq hk
    · rw [List.mem_singleton.mp hq]
      exact List.mem_map.mpr ⟨_, ha, rfl⟩
/-- a new name -/
theorem Bear.new {H0 H : Hp} {d z : Addr} {rs : List Rg} {ls : List (Str × Addr)} {r : Rg} (b : Bear H0 H d rs ls) (s0 : Same H0 H) (h : r.e.k ≠ .unlatch) (hn : r.e.n ∉ ls.map (·.1)) (nz : H z = none) {Hd : Hp} (hd : ∀ c, c ≠ d → Hd c = upd H z (.lst []) c) (hdd : Hd d = some (.dK (bk (ls ++ [(r.e.n, z)])))) :
    Bear H0 (upd Hd z (.lst ([] ++ [.bl r.e.k.counts]))) d (rs ++ [r]) (ls ++ [(r.e.n, z)]) := by
  have zd : z ≠ d := fun e => by rw [e, b.dict] at nz; cases nz
  have nl : ∀ p ∈ ls, p.2 ≠ z := fun p hp e => by
    have := (b.at_ p hp).1
    rw [e, nz] at this
    cases this
  refine ⟨by rw [upd_ne zd.symm]; exact hdd, ?_, ?_, fun p hp => ?_, fun q hq hk => ?_, by rw [List.length_append, List.length_append]; have := b.len; simp; omega⟩
  · rw [List.map_append, List.nodup_append]
    refine ⟨b.nd, by simp, fun x hx y hy e => ?_⟩
    simp at hy
    rw [hy] at e
    exact hn (e ▸ hx)
  · rw [List.map_append, List.nodup_append]
    refine ⟨b.nda, by simp, fun x hx y hy e => ?_⟩
    simp at hy
    rw [hy] at e
    obtain ⟨p, hp, rfl⟩ := List.mem_map.mp hx
    exact nl p hp e
  · rcases List.mem_append.mp hp with hp | hp
    · obtain ⟨g1, g2, g3⟩ := b.at_ p hp
      have e : ¬ r.e.n = p.1 := fun q => hn (q ▸ List.mem_map.mpr ⟨p, hp, rfl⟩)
      refine ⟨?_, g2, g3⟩
      rw [upd_ne (nl p hp), hd _ g3, upd_ne (nl p hp), bears_snoc, if_neg (by rw [decide_eq_false e]; simp)]
      exact g1
    · rw [List.mem_singleton.mp hp]
      refine ⟨?_, s0.free nz, zd⟩
      have e : bears r.e.n rs = [] := bears_nil fun q hq hk e => hn (e ▸ b.all_ q hq hk)
      show upd Hd z _ z = _
      rw [upd_same]
      show _ = some (HO.lst ((bears r.e.n (rs ++ [r])).map V.bl))
      rw [bears_snoc, if_pos (by rw [decide_eq_true rfl, decide_eq_false h]; rfl), e]
      rfl
  · rcases List.mem_append.mp hq with hq | hq
    · rw [List.map_append]
      exact List.mem_append_left _ (b.all_ q hq hk)
    · rw [List.mem_singleton.mp hq, List.map_append]
      exact List.mem_append_right _ (by simp)
def overs (rs : List Rg) (n : Str) : Bool := decide (1 < (bears n rs).length) && (bears n rs).any id
theorem Bear.crowd_eq {H0 H : Hp} {d : Addr} {rs : List Rg} {ls : List (Str × Addr)} (b : Bear H0 H d rs ls) : crowd rs = (ls.map (·.1)).any (overs rs) := by
  rw [Bool.eq_iff_iff, List.any_eq_true]
  unfold crowd
  rw [List.any_eq_true]
  constructor
  · rintro ⟨r, hr, h⟩
    by_cases hk : ∃ q ∈ rs, q.e.k ≠ .unlatch ∧ q.e.n = r.e.n
    · obtain ⟨q, hq, h1, h2⟩ := hk
      exact ⟨r.e.n, h2 ▸ b.all_ q hq h1, h⟩
    · rw [bears_nil fun q hq h1 h2 => hk ⟨q, hq, h1, h2⟩] at h
      cases h
  · rintro ⟨n, _, h⟩
    by_cases hk : ∃ q ∈ rs, q.e.k ≠ .unlatch ∧ q.e.n = n
    · obtain ⟨q, hq, h1, rfl⟩ := hk
      exact ⟨q, hq, h⟩
    · unfold overs at h
      rw [bears_nil fun q hq h1 h2 => hk ⟨q, hq, h1, h2⟩] at h
      cases h
def spOwn (K : PySem.W.Frag) (cs : Cs) (xc : Xc) : Sp := fun vs H Q E => ∃ (t : Addr) (ws : List V) (rs : List Rg), vs = [.ref t] ∧ Tp K H t ws ∧ Two (IsR cs H) ws rs ∧ rs.length ≤ 1000 ∧ (crowd rs = false → ∀ H', Same H H' → Q .non H') ∧ (crowd rs = true → ∀ H', Same H H' → E (.ref xc.ladder) none H')
theorem ok_own (T : TLad K mg cs cc xc) : FnAt P w K mg base (L2.CX P w) "need_own" 1 ["rungs"] (spOwn K cs xc) := by
  have e_NoLadder := T.exs.e_ladder
  refine fnAt_okX T.d_own sc_need_own (fun vs H Q E h => ?_) (fun f cdv A outer s H vs Q E hr h => ?_)
  · obtain ⟨t, ws, rs, rfl, _⟩ := h; rfl
  · obtain ⟨t, ws, rs, rfl, ht, hw, hl, q, qx⟩ := h
    have hlen := hw.length
    refine ⟨_, (pss_cons (ps_set (i := 1) sc_need_own.nd rfl (by first | exact Or.inl rfl | exact Or.inr rfl) pe_dnewK)
        (pss_cons (ps_for (L2.passes_of rfl) rfl (pi_tup (pv 0)) (pg_name (i := 2) sc_need_own.nd rfl (by first | exact Or.inl rfl | exact Or.inr rfl)) (pss_one (ps_if (pt_not (pt_val (pe_callB (call_isO T.is_Unlatch) (by rfl) T.z_isinstance (by decide +kernel) (pa_cons (pe_fld (pv 2) rfl) (pa_cons (pe_cls T.c_Unlatch) pa_nil))))) (pss_one (ps_expr (pe_bm PySem.F.plainAttrs_list PySem.F.slot_list_append PySem.F.type_list_append mt_append (pe_dsetd (pv 1) (pe_fld (pe_fld (pv 2) rfl) rfl) (pe_lst pa_nil) (by constructor <;> rfl)) (pa_cons (pe_callB (call_isO T.is_Counting) (by rfl) T.z_isinstance (by decide +kernel) (pa_cons (pe_fld (pv 2) rfl) (pa_cons (pe_cls T.c_Counting) pa_nil))) pa_nil)))) pss_nil)))
        (pss_one (ps_lock (ps_for (L2.passes_of rfl) rfl (pi_items (pv 1)) (pg_tup rfl (pgs_cons (pg_name (i := 3) sc_need_own.nd rfl (by first | exact Or.inl rfl | exact Or.inr rfl)) (pgs_cons (pg_name (i := 4) sc_need_own.nd rfl (by first | exact Or.inl rfl | exact Or.inr rfl)) pgs_nil))) (pss_one (ps_if (PW.pt (pw_and (pt_cmpR op_gt (pe_callB call_len_seq (by rfl) T.z_len PySem.boot_len (pa_cons (pv 4) pa_nil)) pe_int (nomark _)) (pw_and1 (pt_val (pe_callB (cr_any rfl) (by rfl) T.z_any (by decide +kernel) (pa_cons (pv 4) pa_nil)))))) (pss_one (ps_raiseO rfl e_NoLadder (L2.takes_of rfl rfl rfl rfl))) pss_nil))))))), ?_⟩
    walk_at "rd"
    refine fun d nd => ⟨_, rfl, t, rfl, ⟨_, (ht.mono (Same.imm0 (Same.new nd))).seq⟩,
      for_tup (K := K) (a := t) (xs := ws) (fun i σ H' => ∃ (v2 : Option V) (ls : List (Str × Addr)), σ = [some (.ref t), some (.ref d), v2, none, none] ∧ Same H H' ∧ Bear H H' d (rs.take i) ls)
        ⟨none, [], rfl, Same.new nd, ⟨upd_same, by simp, by simp, by simp, by simp, by simp⟩⟩ (fun i σ H' _ ⟨_, _, _, s, _⟩ => (ht.mono (Same.imm0 s)).seq) ?_ ?_⟩
    · rintro i x σ H1 hx ⟨v2, ls, rfl, s1, hB⟩
      obtain ⟨r, hr', x', dx', p', q', rfl, hx', _, hq'⟩ := hw.at hx
      obtain ⟨e, dx2, rfl, he⟩ := hq'
      have hi := List.getElem?_eq_some_iff.mp hr'
      have htk : rs.take (i + 1) = rs.take i ++ [r] := by rw [List.take_succ, hr']; rfl
      rw [htk]
      refine ⟨_, rfl, x', _, dx', _, _, rfl, s1 _ _ hx', T.c_Rung.cl, T.ne_rg, lkR2, e, _, dx2, _, _, rfl, s1 _ _ he, ⟨r.e.k, rfl, rfl⟩, _, rfl, ?_⟩
      by_cases hk : r.e.k = .unlatch
      · rw [decide_eq_true hk]
        exact iteF ⟨_, ls, rfl, s1, hB.pass hk⟩
      · rw [decide_eq_false hk]
        refine iteT ?_
        have hll : ls.length < sizeLine := by
          have := hB.len
          rw [List.length_take] at this
          rw [sizeLine_eq]
          omega
        refine ⟨_, rfl, d, rfl, .inl ⟨_, .inl hB.dict⟩, _, rfl, x', _, dx', _, _, rfl, s1 _ _ hx', T.c_Rung.cl, T.ne_rg, lkR2, e, _, dx2, _, _, rfl, s1 _ _ he, T.enk.ends.cls _, T.enk.ends.nn _, E_name _, Nat.zero_le _, fun z nz => ?_⟩
        have sz : Same H1 (upd H1 z (.lst [])) := Same.new nz
        refine ⟨bk ls, .inr r.e.n, sz _ _ hB.dict, rfl, by rw [bk, List.length_map]; exact hll, fun v hv => ?_, fun hn => ?_⟩
        · obtain ⟨a, ha, rfl⟩ := bk_some hv
          obtain ⟨g1, g2⟩ := hB.more sz hk ha
          refine ⟨.inl ⟨rfl, _, SqL.of g1⟩, _, rfl, x', _, dx', _, _, rfl, sz _ _ (s1 _ _ hx'), T.c_Rung.cl, T.ne_rg, lkR2, e, _, dx2, _, _, rfl, sz _ _ (s1 _ _ he), ⟨r.e.k, rfl, rfl⟩, a, _, _, rfl, rfl, g1, ?_, ?_⟩
          · have := bears_len r.e.n (rs.take i)
            rw [List.length_take] at this
            rw [List.length_map, sizeLine_eq]
            omega
          · exact ⟨_, ls, rfl, Same.mut (s1.trans sz) (hB.at_ _ ha).2.1, g2⟩
        · have zd : z ≠ d := fun q => by rw [q, hB.dict] at nz; cases nz
          have hput : putK (bk ls) (Sum.inr r.e.n : Key) (.ref z) = bk (ls ++ [(r.e.n, z)]) := by
            rw [putK_new _ hn, bk, bk, List.map_append]
            rfl
          rw [hput]
          have hB2 := hB.new s1 hk (bk_none hn) nz (Hd := upd (upd H1 z (.lst [])) d (.dK (bk (ls ++ [(r.e.n, z)])))) (fun c hc => upd_ne hc) upd_same
          have sd : Same H (upd (upd H1 z (.lst [])) d (.dK (bk (ls ++ [(r.e.n, z)])))) := Same.mut (s1.trans sz) nd
          have hz : upd (upd H1 z (.lst [])) d (.dK (bk (ls ++ [(r.e.n, z)]))) z = some (.lst []) := by rw [upd_ne zd, upd_same]
          generalize upd (upd H1 z (.lst [])) d (.dK (bk (ls ++ [(r.e.n, z)]))) = H2 at hB2 sd hz ⊢
          refine ⟨.inl ⟨rfl, _, SqL.of hz⟩, _, rfl, x', _, dx', _, _, rfl, sd _ _ hx', T.c_Rung.cl, T.ne_rg, lkR2, e, _, dx2, _, _, rfl, sd _ _ he, ⟨r.e.k, rfl, rfl⟩, z, _, _, rfl, rfl, hz, by show 0 < sizeLine; rw [sizeLine_eq]; decide, ?_⟩
          exact ⟨_, _, rfl, Same.mut sd (s1.free nz), hB2⟩
    · rintro σ H1 ⟨v2, ls, rfl, s1, hB⟩
      rw [hlen, List.take_length] at hB
      refine ⟨d, _, hB.dict, trivial, fun od => ?_⟩
      have sf : Same H (upd H1 d (.frz od (.dK (bk ls)))) := Same.mut s1 nd
      have hkeep : ∀ p ∈ ls, upd H1 d (.frz od (.dK (bk ls))) p.2 = some (.lst ((bears p.1 rs).map V.bl)) := fun p hp => by
        rw [upd_ne (hB.at_ p hp).2.2]
        exact (hB.at_ p hp).1
      have hfd : upd H1 d (.frz od (.dK (bk ls))) d = some (.frz od (.dK (bk ls))) := upd_same
      generalize upd H1 d (.frz od (.dK (bk ls))) = Hf at sf hkeep hfd ⊢
      refine ⟨_, rfl, d, od, bk ls, rfl, hfd, for_it walk_items (fun i σ H' => ∃ v2 v3 v4 : Option V, σ = [some (.ref t), some (.ref d), v2, v3, v4] ∧ Same Hf H' ∧ ∀ p ∈ ls.take i, overs rs p.1 = false) ⟨_, _, _, rfl, Same.refl _, by simp⟩ (fun i σ H' _ ⟨_, _, _, _, s, _⟩ => s _ _ hfd) ?_ ?_⟩
      · rintro i x σ H2 H3 hi ⟨v2, v3, v4, rfl, s2, hA⟩ ⟨T', y, z, rfl, nT, rfl, hy, hz⟩
        rw [bk, List.length_map] at hi
        have hli : ls[i]? = some ls[i] := List.getElem?_eq_getElem hi
        have hmem : ls[i] ∈ ls := List.getElem_mem hi
        have hkv : (bk ls)[i]? = some (Sum.inr (ls[i]).1, .ref (ls[i]).2) := by rw [bk, List.getElem?_map, hli]; rfl
        simp only [hkv, Option.map_some, Option.some.injEq] at hy hz
        subst hy hz
        have sT : Same H2 (upd H2 T' (.tup [kV (Sum.inr (ls[i]).1 : Key), .ref (ls[i]).2])) := Same.new nT
        have hl2 := sT _ _ (s2 _ _ (hkeep _ hmem))
        refine ⟨T', _, rfl, SqT.of upd_same, rfl, ?_⟩
        walk_at "rd"
        have hA2 : overs rs (ls[i]).1 = false → ∀ p ∈ ls.take (i + 1), overs rs p.1 = false := fun h p hp => by
          rw [List.take_succ, hli] at hp
          rcases List.mem_append.mp hp with hp | hp
          · exact hA p hp
          · rw [List.mem_singleton.mp hp]
            exact h
        refine ⟨_, .inl (SqL.of hl2), ?_⟩
        rw [List.length_map]
        by_cases h1 : (1 : Int) < ((bears (ls[i]).1 rs).length : Int)
        · rw [decide_eq_true h1]
          refine iteT ⟨_, _, rfl, SqL.of hl2, _, rfl, ?_⟩
          have hov : overs rs (ls[i]).1 = (bears (ls[i]).1 rs).any id := by
            unfold overs
            rw [decide_eq_true (by omega), Bool.true_and]
          cases hany : (bears (ls[i]).1 rs).any id with
          | true =>
            refine iteT (qx ?_ _ (sf.trans (s2.trans sT)))
            rw [hB.crowd_eq, List.any_eq_true]
            exact ⟨_, List.mem_map.mpr ⟨_, hmem, rfl⟩, by rw [hov, hany]⟩
          | false => exact iteF ⟨_, _, _, ⟨rfl, rfl, rfl⟩, s2.trans sT, hA2 (by rw [hov, hany])⟩
        · rw [decide_eq_false h1]
          refine iteF ⟨_, _, _, ⟨rfl, rfl, rfl⟩, s2.trans sT, hA2 ?_⟩
          unfold overs
          rw [decide_eq_false (by omega), Bool.false_and]
      · rintro σ H2 ⟨v2, v3, v4, rfl, s2, hA⟩
        rw [bk, List.length_map, List.take_length] at hA
        refine ⟨s2 _ _ hfd, q ?_ _ (Same.mut (sf.trans s2) nd)⟩
        rw [hB.crowd_eq, ← Bool.not_eq_true, List.any_eq_true]
        rintro ⟨n, hn, h⟩
        obtain ⟨p, hp, rfl⟩ := List.mem_map.mp hn
        rw [hA p hp] at h
        cases h
def rTupOf (K : PySem.W.Frag) : List V → Hp → VK → Prop := fun xs H Q => ∃ p, xs = [V.ref p] ∧ ∃ x, (SqL K H p x ∧ ∀ (l : Addr), H l = none → Q (V.ref l) (upd H l (HO.tup x))) ∨ SqT K H p x ∧ Q (V.ref p) H
theorem sq2_tuple {K : PySem.W.Frag} {H0 H : Hp} {i : Addr} {xs : List V} {σ : L2.St} {k : Nat} {Q : VK} (hσ : σ[k]? = some (some (.ref i))) (s : Same H0 H) (h : H0 i = some (.lst xs) ∨ Tp K H0 i xs) (q : ∀ (H' : Hp) (t : Addr), Same H H' → Tp K H' t xs → Q (.ref t) H') :
    tCB (rTupOf K) (tCons (tVar k) tNil) σ H Q := by
  refine ⟨_, hσ, ?_⟩
  show rTupOf K [.ref i] H Q
  rcases h with h | h
  · exact ⟨i, rfl, xs, .inl ⟨SqL.of (s _ _ h), fun t nt => q _ t (Same.new nt) (.inl upd_same)⟩⟩
  · exact ⟨i, rfl, xs, .inr ⟨(h.mono (Same.imm0 s)).seq, q H i (Same.refl H) (h.mono (Same.imm0 s))⟩⟩
theorem cat_tp {K : PySem.W.Frag} {H : Hp} {a b : Addr} {xs ys : List V} {R : V → Hp → Prop} (h1 : Tp K H a xs) (h2 : Tp K H b ys) (hl : xs.length + ys.length ≤ 1000000) (k : ∀ (H' : Hp) (p : Addr), Same H H' → Tp K H' p (xs ++ ys) → R (.ref p) H') : rCatA K (.ref a) (.ref b) H R := by
  refine ⟨a, b, xs, ys, rfl, rfl, h1.seq, h2.seq, line_ge hl, fun e => k H b (Same.refl H) (by rw [e]; exact h2), fun _ e => k H a (Same.refl H) (by rw [e, List.append_nil]; exact h1), fun _ _ p np => k _ p (Same.new np) (.inl upd_same)⟩
theorem filter_snoc {α : Type} (f : α → Bool) {l : List α} {i : Nat} {x : α} (h : l[i]? = some x) : (l.take (i + 1)).filter f = if f x = true then (l.take i).filter f ++ [x] else (l.take i).filter f := by
  rw [List.take_succ, h, List.filter_append]
  simp only [Option.toList, List.filter_cons, List.filter_nil]
  split <;> simp
theorem fair_iff (l : Lad) : l.fair = true ↔ l.ins.length ≤ 6 ∧ l.ins.Nodup ∧ (1 ≤ l.outs.length ∧ l.outs.length ≤ 6) ∧ l.outs.Nodup ∧ (1 ≤ l.rs.length ∧ l.rs.length ≤ 30) ∧ (∀ n ∈ l.ins, n ∉ writ l.rs) ∧ (∀ n ∈ l.outs, n ∈ writ l.rs) ∧ crowd l.rs = false ∧ (writ l.rs).length ≤ 20 := by
  unfold Lad.fair
  simp only [Bool.and_eq_true, decide_eq_true_eq, List.all_eq_true, Bool.not_eq_true', decide_eq_false_iff_not, and_assoc]
def Lad.bad (l : Lad) : Option Xk := if l.named = true then (if l.fair = true then none else some .ladder) else some .name
/-- the arguments of Ladder: lists or tuples -/
def Sq2 (K : PySem.W.Frag) (H : Hp) (a : Addr) (xs : List V) : Prop := H a = some (.lst xs) ∨ Tp K H a xs
def spInitLd (K : PySem.W.Frag) (cs : Cs) (xc : Xc) : Sp := fun vs H Q E => ∃ (H0 : Hp) (x dx i o r : Addr) (ws : List V) (l : Lad), vs = [.ref x, .ref i, .ref o, .ref r] ∧ H x = some (.ins cs.ld dx []) ∧ Same H0 H ∧ H0 x = none ∧
  Sq2 K H0 i (l.ins.map V.str) ∧ Sq2 K H0 o (l.outs.map V.str) ∧ Sq2 K H0 r ws ∧ Two (IsR cs H0) ws l.rs ∧ l.ins.length ≤ 1000 ∧ l.outs.length ≤ 1000 ∧ l.rs.length ≤ 1000 ∧ (∀ n ∈ l.ins ++ l.outs, n.length ≤ 1000000) ∧
  (l.bad = none → ∀ H', Same H0 H' → IsL K cs H' (.ref x) l → Q .non H') ∧ (∀ b, l.bad = some b → ∀ H', Same H0 H' → E (.ref (xc.at b)) none H')
theorem ok_init_ld (T : TLad K mg cs cc xc) : MakAt P w K mg base (L2.CX P w) "Ladder" cs.ld 3 ["self", "inputs", "outputs", "rungs"] (spInitLd K cs xc) := by
  have G_is_name : FnAt P w K mg base CX0 "is_name" 2 _ spIsName := ok_is_name T.enk.ends.names
  have GX_need_between : FnAt P w K mg base (L2.CX P w) "need_between" 1 _ (spBetween K xc) := ok_between T
  have GX_need_single : FnAt P w K mg base (L2.CX P w) "need_single" 1 _ (spSingleN K xc) := ok_single1 T
  have GX_need_own : FnAt P w K mg base (L2.CX P w) "need_own" 1 _ (spOwn K cs xc) := ok_own T
  have G_written_names : DispAt P w K mg base CX0 (fun C => C = cs.ld) "written_names" 1 ["self"] (fun _ => spWrit K cs) := disp_written T
  have e_NoName := T.exs.e_name
  have e_NoLadder := T.exs.e_ladder
  refine makAt_of T.c_Ladder (methAt_okX T.c_Ladder.cl T.i_ld sc_Ladder___init__ (fun vs H Q E h => ?_) (fun f cdv A outer s H vs Q E hr h => ?_))
  · obtain ⟨H0, x, dx, i, o, r, ws, l, rfl, _⟩ := h; rfl
  · obtain ⟨H0, x, dx, i, o, r, ws, l, rfl, hx, s0, n0, hi, ho, hr2, hw, li, lo, lr, ln, q, qx⟩ := h
    have hu := hu_of hr
    refine ⟨_, (pss_cons (ps_fld (pv 0) (pe_callTy call_tuple_of (by rfl) T.z_tuple (show PySem.bootBuiltins "tuple" = some (.type "tuple") by decide +kernel) (pa_cons (pv 1) pa_nil)) rfl)
        (pss_cons (ps_fld (pv 0) (pe_callTy call_tuple_of (by rfl) T.z_tuple (show PySem.bootBuiltins "tuple" = some (.type "tuple") by decide +kernel) (pa_cons (pv 2) pa_nil)) rfl)
        (pss_cons (ps_fld (pv 0) (pe_callTy call_tuple_of (by rfl) T.z_tuple (show PySem.bootBuiltins "tuple" = some (.type "tuple") by decide +kernel) (pa_cons (pv 3) pa_nil)) rfl)
        (pss_cons (ps_for (L2.passes_of rfl) rfl (pi_tup (pe_op op_catA (pe_fld (pv 0) rfl) (pe_fld (pv 0) rfl))) (pg_name (i := 4) sc_Ladder___init__.nd rfl (by first | exact Or.inl rfl | exact Or.inr rfl)) (pss_one (ps_if (pt_not (pt_val (pe_callF G_is_name hr pass0 (pa_cons (pv 4) pa_nil)))) (pss_one (ps_raiseO rfl e_NoName (L2.takes_of rfl rfl rfl rfl))) pss_nil)))
        (pss_cons (ps_expr (pe_callF GX_need_between hr (passX (L2.takes_of rfl rfl rfl rfl)) (pa_cons (pe_fld (pv 0) rfl) (pa_cons pe_int (pa_cons (pe_gc T.g_MOST_NAMES_ladders) pa_nil)))))
        (pss_cons (ps_expr (pe_callF GX_need_single hr (passX (L2.takes_of rfl rfl rfl rfl)) (pa_cons (pe_fld (pv 0) rfl) pa_nil)))
        (pss_cons (ps_expr (pe_callF GX_need_between hr (passX (L2.takes_of rfl rfl rfl rfl)) (pa_cons (pe_fld (pv 0) rfl) (pa_cons pe_int (pa_cons (pe_gc T.g_MOST_NAMES_ladders) pa_nil)))))
        (pss_cons (ps_expr (pe_callF GX_need_single hr (passX (L2.takes_of rfl rfl rfl rfl)) (pa_cons (pe_fld (pv 0) rfl) pa_nil)))
        (pss_cons (ps_expr (pe_callF GX_need_between hr (passX (L2.takes_of rfl rfl rfl rfl)) (pa_cons (pe_fld (pv 0) rfl) (pa_cons pe_int (pa_cons (pe_gc T.g_MOST_RUNGS) pa_nil)))))
        (pss_cons (ps_set (i := 5) sc_Ladder___init__.nd rfl (by first | exact Or.inl rfl | exact Or.inr rfl) (pe_methD0 G_written_names hr pass0 (pv 0)))
        (pss_cons (ps_if (pt_cmpR (op_neE hr.units0) (pe_lc (own := [("name", 4)]) (g := gName 4) rfl sc_Ladder___init__.nd (pi_tup (pe_fld (pv 0) rfl)) (blkOk_by (own := [("name", 4)]) (N := ["self", "inputs", "outputs", "rungs", "name", "names"]) (sc := defScope s_Ladder___init__) (by decide +kernel)) (fun _ _ _ _ _ => pg_name (i := 4) sc_Ladder___init__.nd rfl (Or.inl rfl)) (fun _ _ _ _ _ => (pts_one (pt_cmpR (op_inK K rfl) (pv 4) (pv 5) rfl))) (fun _ _ _ _ _ => (pv 4))) (pe_lst pa_nil) (nomark _)) (pss_one (ps_raiseO rfl e_NoLadder (L2.takes_of rfl rfl rfl rfl))) pss_nil)
        (pss_cons (ps_if (pt_cmpR (op_neE hr.units0) (pe_lc (own := [("name", 4)]) (g := gName 4) rfl sc_Ladder___init__.nd (pi_tup (pe_fld (pv 0) rfl)) (blkOk_by (own := [("name", 4)]) (N := ["self", "inputs", "outputs", "rungs", "name", "names"]) (sc := defScope s_Ladder___init__) (by decide +kernel)) (fun _ _ _ _ _ => pg_name (i := 4) sc_Ladder___init__.nd rfl (Or.inl rfl)) (fun _ _ _ _ _ => (pts_one (pt_cmpR (op_notInK K rfl) (pv 4) (pv 5) rfl))) (fun _ _ _ _ _ => (pv 4))) (pe_lst pa_nil) (nomark _)) (pss_one (ps_raiseO rfl e_NoLadder (L2.takes_of rfl rfl rfl rfl))) pss_nil)
        (pss_cons (ps_expr (pe_callF GX_need_own hr (passX (L2.takes_of rfl rfl rfl rfl)) (pa_cons (pe_fld (pv 0) rfl) pa_nil)))
        (pss_one (ps_expr (pe_callF GX_need_between hr (passX (L2.takes_of rfl rfl rfl rfl)) (pa_cons (pv 5) (pa_cons pe_int (pa_cons (pe_gc T.g_MOST_WRITTEN) pa_nil))))))))))))))))))), ?_⟩
    walk_at "rd"
    refine sq2_tuple (k := 1) (σ := [some (.ref x), some (.ref i), some (.ref o), some (.ref r), none, none]) rfl s0 hi fun Ha ti sa ta => ?_
    have hxa := sa _ _ hx
    refine ⟨_, rfl, x, _, dx, [], rfl, hxa, T.c_Ladder.cl, T.ni_ld, (by show 0 < 1000; decide), ?_⟩
    have m1 : Imm (fun _ => False) Ha (upd Ha x (.ins cs.ld dx (putF "inputs" (.ref ti) []))) := Imm.mut hxa id
    have s1 : Same H0 (upd Ha x (.ins cs.ld dx (putF "inputs" (.ref ti) []))) := Same.mut (s0.trans sa) n0
    have ta1 := ta.mono m1
    have hx1 : upd Ha x (.ins cs.ld dx (putF "inputs" (.ref ti) [])) x = some (.ins cs.ld dx [("inputs", .ref ti)]) := upd_same
    generalize upd Ha x (.ins cs.ld dx (putF "inputs" (.ref ti) [])) = H1 at s1 ta1 hx1 ⊢
    walk_at "rd"
    refine sq2_tuple (k := 2) (σ := [some (.ref x), some (.ref i), some (.ref o), some (.ref r), none, none]) rfl s1 ho fun Hb tt sb tb => ?_
    have hxb := sb _ _ hx1
    refine ⟨_, rfl, x, _, dx, _, rfl, hxb, T.c_Ladder.cl, T.no_ld, (by show 1 < 1000; decide), ?_⟩
    have m2 : Imm (fun _ => False) Hb (upd Hb x (.ins cs.ld dx (putF "outputs" (.ref tt) [("inputs", .ref ti)]))) := Imm.mut hxb id
    have s2 : Same H0 (upd Hb x (.ins cs.ld dx (putF "outputs" (.ref tt) [("inputs", .ref ti)]))) := Same.mut (s1.trans sb) n0
    have ta2 := (ta1.mono (Same.imm0 sb)).mono m2
    have tb2 := tb.mono m2
    have hx2 : upd Hb x (.ins cs.ld dx (putF "outputs" (.ref tt) [("inputs", .ref ti)])) x = some (.ins cs.ld dx [("inputs", .ref ti), ("outputs", .ref tt)]) := upd_same
    generalize upd Hb x (.ins cs.ld dx (putF "outputs" (.ref tt) [("inputs", .ref ti)])) = H2 at s2 ta2 tb2 hx2 ⊢
    walk_at "rd"
    refine sq2_tuple (k := 3) (σ := [some (.ref x), some (.ref i), some (.ref o), some (.ref r), none, none]) rfl s2 hr2 fun Hc tr sc tc => ?_
    have hxc := sc _ _ hx2
    refine ⟨_, rfl, x, _, dx, _, rfl, hxc, T.c_Ladder.cl, T.nr_ld, (by show 2 < 1000; decide), ?_⟩
    have m3 : Imm (fun _ => False) Hc (upd Hc x (.ins cs.ld dx (putF "rungs" (.ref tr) [("inputs", .ref ti), ("outputs", .ref tt)]))) := Imm.mut hxc id
    have s3 : Same H0 (upd Hc x (.ins cs.ld dx (putF "rungs" (.ref tr) [("inputs", .ref ti), ("outputs", .ref tt)]))) := Same.mut (s2.trans sc) n0
    have t1 := (ta2.mono (Same.imm0 sc)).mono m3
    have t2 := (tb2.mono (Same.imm0 sc)).mono m3
    have t3 := tc.mono m3
    have hx3 : upd Hc x (.ins cs.ld dx (putF "rungs" (.ref tr) [("inputs", .ref ti), ("outputs", .ref tt)])) x = some (.ins cs.ld dx [("inputs", .ref ti), ("outputs", .ref tt), ("rungs", .ref tr)]) := upd_same
    generalize upd Hc x (.ins cs.ld dx (putF "rungs" (.ref tr) [("inputs", .ref ti), ("outputs", .ref tt)])) = H3 at s3 t1 t2 t3 hx3 ⊢
    clear ta ta1 ta2 tb tb2 tc m1 m2 m3 hx hxa hxb hxc hx1 hx2 s1 s2 sa sb sc hi ho hr2
    have w3 : Two (IsR cs H3) ws l.rs := hw.mono fun _ _ z => z.mono (Same.imm s3)
    have isl : IsL K cs H3 (.ref x) l := ⟨x, dx, ti, tt, tr, ws, rfl, hx3, t1, t2, t3, w3⟩
    walk_at "rd"
    refine ⟨_, rfl, x, _, dx, _, _, rfl, hx3, T.c_Ladder.cl, T.ni_ld, lkL1, _, rfl, x, _, dx, _, _, rfl, hx3, T.c_Ladder.cl, T.no_ld, lkL2, cat_tp t1 t2 (by rw [List.length_map, List.length_map]; omega) fun H4 p4 s4 tp4 => ?_⟩
    rw [← List.map_append] at tp4
    refine ⟨p4, rfl, ⟨_, tp4.seq⟩, for_tup (K := K) (a := p4) (xs := (l.ins ++ l.outs).map V.str) (fun i' σ H' => ∃ v4 : Option V, σ = [some (.ref x), some (.ref i), some (.ref o), some (.ref r), v4, none] ∧ Same H3 H' ∧ Tp K H' p4 ((l.ins ++ l.outs).map V.str) ∧ ∀ n ∈ (l.ins ++ l.outs).take i', isName n = true) ⟨none, rfl, s4, tp4, by simp⟩ (fun i' σ H' _ ⟨_, _, _, tp, _⟩ => tp.seq) ?_ ?_⟩
    · rintro i' y σ H5 hy ⟨v4, rfl, s5, tp5, hA⟩
      rw [List.getElem?_map] at hy
      obtain ⟨n, hn, rfl⟩ := Option.map_eq_some_iff.mp hy
      have hm := List.mem_of_getElem? hn
      walk_at "rd"
      refine ⟨n, rfl, line_ge (ln n hm), ?_⟩
      cases hnn : isName n with
      | false =>
        refine ⟨false, rfl, iteT (qx .name ?_ _ (s3.trans s5))⟩
        unfold Lad.bad Lad.named
        rw [if_neg]
        intro hall
        rw [List.all_eq_true.mp hall n hm] at hnn
        cases hnn
      | true =>
        refine ⟨true, rfl, iteF ⟨s5, tp5, fun z hz => ?_⟩⟩
        rw [List.take_succ, hn] at hz
        rcases List.mem_append.mp hz with hz | hz
        · exact hA z hz
        · rw [List.mem_singleton.mp hz]
          exact hnn
    rintro σ H5 ⟨v4, rfl, s5, tp5, hA⟩
    rw [List.length_map, List.take_length] at hA
    have hnamed : l.named = true := List.all_eq_true.mpr hA
    have bl : ¬ l.fair = true → l.bad = some .ladder := fun hf => by
      unfold Lad.bad
      rw [if_pos hnamed, if_neg hf]
    have fi := fair_iff l
    walk_at "rd"
    have hx5 := s5 _ _ hx3
    have u1 := t1.mono (Same.imm0 s5)
    have u2 := t2.mono (Same.imm0 s5)
    have u3 := t3.mono (Same.imm0 s5)
    have isl5 := isl.mono (Same.imm s5)
    have w5 : Two (IsR cs H5) ws l.rs := w3.mono fun _ _ z => z.mono (Same.imm s5)
    have s05 := s3.trans s5
    have hwl := w3.length
    clear s3 s5 s4 t1 t2 t3 tp4 tp5 hA hx3 w3 isl hw
    refine ⟨_, rfl, x, _, dx, _, _, rfl, hx5, T.c_Ladder.cl, T.ni_ld, lkL1, ti, _, 0, 6, rfl, u1.seq, fun g1 => ?_, fun h1 => qx .ladder (bl fun hf => h1 (by obtain ⟨f1, _⟩ := fi.mp hf; rw [List.length_map]; omega)) _ s05⟩
    refine ⟨_, rfl, x, _, dx, _, _, rfl, hx5, T.c_Ladder.cl, T.ni_ld, lkL1, ti, l.ins, rfl, u1.seq, li, fun g2 => ?_, fun h1 => qx .ladder (bl fun hf => h1 (fi.mp hf).2.1) _ s05⟩
    refine ⟨_, rfl, x, _, dx, _, _, rfl, hx5, T.c_Ladder.cl, T.no_ld, lkL2, tt, _, 1, 6, rfl, u2.seq, fun g3 => ?_, fun h1 => qx .ladder (bl fun hf => h1 (by obtain ⟨_, _, f1, _⟩ := fi.mp hf; rw [List.length_map]; omega)) _ s05⟩
    refine ⟨_, rfl, x, _, dx, _, _, rfl, hx5, T.c_Ladder.cl, T.no_ld, lkL2, tt, l.outs, rfl, u2.seq, lo, fun g4 => ?_, fun h1 => qx .ladder (bl fun hf => h1 (fi.mp hf).2.2.2.1) _ s05⟩
    refine ⟨_, rfl, x, _, dx, _, _, rfl, hx5, T.c_Ladder.cl, T.nr_ld, lkL3, tr, _, 1, 30, rfl, u3.seq, fun g5 => ?_, fun h1 => qx .ladder (bl fun hf => h1 (by obtain ⟨_, _, _, _, f1, _⟩ := fi.mp hf; rw [hwl]; omega)) _ s05⟩
    rw [List.length_map] at g1 g3
    rw [hwl] at g5
    refine ⟨_, rfl, x, _, dx, _, rfl, hx5, rfl, lkLw, .ref x, l, rfl, isl5, lr, fun H6 p6 s6 h6 => ?_⟩
    have hx6 := s6 _ _ hx5
    have v1 := u1.mono (Same.imm0 s6)
    have wl := writ_len l.rs
    refine ⟨_, rfl, x, _, dx, _, _, rfl, hx6, T.c_Ladder.cl, T.ni_ld, lkL1, ti, rfl, ⟨_, v1.seq⟩, fun D nD => lc_tup (K := K) (a := ti) (xs := l.ins.map V.str) (fun j H' => Same H6 H' ∧ H' D = some (.lst (((l.ins.take j).filter fun n => decide (n ∈ writ l.rs)).map V.str))) ⟨Same.new nD, upd_same⟩ (fun j H' _ q => (v1.mono (Same.imm0 q.1)).seq) ?_ ?_⟩
    · rintro j y H7 hy ⟨s7, hD⟩
      rw [List.getElem?_map] at hy
      obtain ⟨n, hn, rfl⟩ := Option.map_eq_some_iff.mp hy
      rw [filter_snoc _ hn]
      refine ⟨rfl, _, rfl, _, rfl, p6, _, rfl, .inr (SqT.of (s7 _ _ h6)), rfl, all_flatS _, _, rfl, ?_⟩
      have hfl := List.length_filter_le (fun n => decide (n ∈ writ l.rs)) (l.ins.take j)
      rw [List.length_take] at hfl
      rw [if_neg Bool.false_ne_true, inV_strs]
      by_cases hm : n ∈ writ l.rs
      · rw [decide_eq_true hm]
        refine iteT ⟨_, rfl, _, hD, by rw [List.length_map, sizeLine_eq]; omega, Same.mut s7 nD, ?_⟩
        rw [upd_same, if_pos rfl, List.map_append]
        rfl
      · rw [decide_eq_false hm]
        exact iteF ⟨s7, by rw [if_neg Bool.false_ne_true]; exact hD⟩
    rintro H7 ⟨s7, hD⟩
    rw [List.length_map, List.take_length] at hD
    refine ⟨Nat.zero_le _, fun z nz => ⟨D, z, _, rfl, rfl, SqL.of (Same.new nz _ _ hD), SqL.of upd_same, _, rfl, ?_⟩⟩
    have s8 : Same H6 (upd H7 z (.lst [])) := s7.trans (Same.new nz)
    have g6 : (List.map V.str (l.ins.filter fun n => decide (n ∈ writ l.rs))).isEmpty = decide (∀ n ∈ l.ins, n ∉ writ l.rs) := by
      rw [Bool.eq_iff_iff, decide_eq_true_eq, List.isEmpty_iff, List.map_eq_nil_iff, List.filter_eq_nil_iff]
      simp only [decide_eq_true_eq]
    rw [g6]
    by_cases hin : ∀ n ∈ l.ins, n ∉ writ l.rs
    case neg =>
      rw [decide_eq_false hin]
      exact iteT (qx .ladder (bl fun hf => hin (fi.mp hf).2.2.2.2.2.1) _ (s05.trans (s6.trans s8)))
    rw [decide_eq_true hin]
    refine iteF ?_
    generalize upd H7 z (.lst []) = H8 at s8 ⊢
    clear hD nz s7
    have hx8 := s8 _ _ hx6
    have v2 := u2.mono (Same.imm0 (s6.trans s8))
    have h8 := s8 _ _ h6
    refine ⟨_, rfl, x, _, dx, _, _, rfl, hx8, T.c_Ladder.cl, T.no_ld, lkL2, tt, rfl, ⟨_, v2.seq⟩, fun D2 nD2 => lc_tup (K := K) (a := tt) (xs := l.outs.map V.str) (fun j H' => Same H8 H' ∧ H' D2 = some (.lst (((l.outs.take j).filter fun n => !decide (n ∈ writ l.rs)).map V.str))) ⟨Same.new nD2, upd_same⟩ (fun j H' _ q => (v2.mono (Same.imm0 q.1)).seq) ?_ ?_⟩
    · rintro j y H9 hy ⟨s9, hD⟩
      rw [List.getElem?_map] at hy
      obtain ⟨n, hn, rfl⟩ := Option.map_eq_some_iff.mp hy
      rw [filter_snoc _ hn]
      refine ⟨rfl, _, rfl, _, rfl, p6, _, rfl, .inr (SqT.of (s9 _ _ h8)), rfl, all_flatS _, _, rfl, ?_⟩
      have hfl := List.length_filter_le (fun n => !decide (n ∈ writ l.rs)) (l.outs.take j)
      rw [List.length_take] at hfl
      rw [if_pos rfl, inV_strs]
      by_cases hm : n ∈ writ l.rs
      · rw [decide_eq_true hm]
        exact iteF ⟨s9, hD⟩
      · rw [decide_eq_false hm]
        refine iteT ⟨_, rfl, _, hD, by rw [List.length_map, sizeLine_eq]; omega, Same.mut s9 nD2, ?_⟩
        rw [upd_same]
        show _ = some (HO.lst (List.map V.str (List.filter (fun n => !decide (n ∈ writ l.rs)) (List.take j l.outs) ++ [n])))
        rw [List.map_append]
        rfl
    rintro H9 ⟨s9, hD⟩
    rw [List.length_map, List.take_length] at hD
    refine ⟨Nat.zero_le _, fun z nz => ⟨D2, z, _, rfl, rfl, SqL.of (Same.new nz _ _ hD), SqL.of upd_same, _, rfl, ?_⟩⟩
    have s10 : Same H8 (upd H9 z (.lst [])) := s9.trans (Same.new nz)
    have g7 : (List.map V.str (l.outs.filter fun n => !decide (n ∈ writ l.rs))).isEmpty = decide (∀ n ∈ l.outs, n ∈ writ l.rs) := by
      rw [Bool.eq_iff_iff, decide_eq_true_eq, List.isEmpty_iff, List.map_eq_nil_iff, List.filter_eq_nil_iff]
      simp only [Bool.not_eq_true', decide_eq_false_iff_not, Decidable.not_not]
    rw [g7]
    by_cases hout : ∀ n ∈ l.outs, n ∈ writ l.rs
    case neg =>
      rw [decide_eq_false hout]
      exact iteT (qx .ladder (bl fun hf => hout (fi.mp hf).2.2.2.2.2.2.1) _ (s05.trans (s6.trans (s8.trans s10))))
    rw [decide_eq_true hout]
    refine iteF ?_
    have s5z : Same H5 (upd H9 z (.lst [])) := s6.trans (s8.trans s10)
    generalize upd H9 z (.lst []) = Hz at s10 s5z ⊢
    have hxz := s5z _ _ hx5
    have hpz := (s8.trans s10) _ _ h6
    refine ⟨_, rfl, x, _, dx, _, _, rfl, hxz, T.c_Ladder.cl, T.nr_ld, lkL3, tr, ws, l.rs, rfl, u3.mono (Same.imm0 s5z), w5.mono (fun _ _ q => q.mono (Same.imm s5z)), lr, fun hcr Hq sq => ?_, fun hcr Hq sq => qx .ladder (bl fun hf => by rw [(fi.mp hf).2.2.2.2.2.2.2.1] at hcr; cases hcr) _ (s05.trans (s5z.trans sq))⟩
    have hrs : l.rs ≠ [] := by intro e; rw [e] at g5; simp at g5
    have wp := writ_pos hrs
    refine ⟨p6, _, 1, 20, rfl, SqT.of (sq _ _ hpz), fun g9 => ?_, fun h1 => qx .ladder (bl fun hf => h1 (by have := (fi.mp hf).2.2.2.2.2.2.2.2; rw [List.length_map]; omega)) _ (s05.trans (s5z.trans sq))⟩
    rw [List.length_map] at g9
    have hfair : l.fair = true := fi.mpr ⟨by omega, g2, by omega, g4, by omega, hin, hout, hcr, by omega⟩
    refine q ?_ _ (s05.trans (s5z.trans sq)) (isl5.mono (Same.imm (s5z.trans sq)))
    unfold Lad.bad
    rw [if_pos hnamed, if_pos hfair]
end

--%% M6
/-! ## sheets: the object -/
abbrev s_Sheet_place : Stmt := inClass (top 32) 1
theorem sc_Sheet_place : FnScope ["self", "node"] ["self", "node"] (defScope s_Sheet_place) := ⟨rfl, rfl, rfl, by decide +kernel, rfl, by decide +kernel, by decide +kernel⟩
abbrev s_Sheet_made : Stmt := inClass (top 32) 2
theorem sc_Sheet_made : FnScope ["self", "place", "low", "high", "key"] ["self", "place", "low", "high"] (defScope s_Sheet_made) := ⟨rfl, rfl, rfl, by decide +kernel, rfl, by decide +kernel, by decide +kernel⟩
abbrev s_Sheet_below : Stmt := inClass (top 32) 3
theorem sc_Sheet_below : FnScope ["self", "node", "place"] ["self", "node", "place"] (defScope s_Sheet_below) := ⟨rfl, rfl, rfl, by decide +kernel, rfl, by decide +kernel, by decide +kernel⟩
abbrev s_Sheet_joined : Stmt := inClass (top 32) 5
theorem sc_Sheet_joined : FnScope ["self", "one", "other", "stop", "known", "place", "here", "there", "low"] ["self", "one", "other", "stop", "known"] (defScope s_Sheet_joined) := ⟨rfl, rfl, rfl, by decide +kernel, rfl, by decide +kernel, by decide +kernel⟩
def shF (tn ln dn : Addr) : List (Str × V) := [("names", .ref tn), ("nodes", .ref ln), ("numbers", .ref dn)]
theorem lkS1 {tn ln dn : Addr} : List.lookup ("names" : Str) (shF tn ln dn) = some (.ref tn) := by simp [List.lookup, shF]
theorem lkS2 {tn ln dn : Addr} : List.lookup ("nodes" : Str) (shF tn ln dn) = some (.ref ln) := by
  have e : (("nodes" : Str) == ("names" : Str)) = false := by decide +kernel
  simp [List.lookup, shF, e]
theorem lkS3 {tn ln dn : Addr} : List.lookup ("numbers" : Str) (shF tn ln dn) = some (.ref dn) := by
  have e : (("numbers" : Str) == ("names" : Str)) = false := by decide +kernel
  have e1 : (("numbers" : Str) == ("nodes" : Str)) = false := by decide +kernel
  simp [List.lookup, shF, e, e1]
theorem lkSn {tn ln dn : Addr} {m : Str} (h : ((m == ("names" : Str)) || (m == ("nodes" : Str)) || (m == ("numbers" : Str))) = false) : List.lookup m (shF tn ln dn) = none := by
  simp only [Bool.or_eq_false_iff] at h
  simp [List.lookup, shF, h]
/-- a node as it stands in the list, and as a key -/
def ndV (t : Sh.Nd) : List V := [.int t.1, .int t.2.1, .int t.2.2]
def ndK (t : Sh.Nd) : List Key := [.inl t.1, .inl t.2.1, .inl t.2.2]
theorem ndK_V (t : Sh.Nd) : (ndK t).map kV = ndV t := rfl
theorem ndK_inj {t u : Sh.Nd} : ndK t = ndK u ↔ t = u := by
  constructor
  · intro h
    obtain ⟨a, b, c⟩ := t
    obtain ⟨a', b', c'⟩ := u
    unfold ndK at h
    simp only [List.cons.injEq, Sum.inl.injEq, Int.natCast_inj, and_true] at h
    obtain ⟨h1, h2, h3⟩ := h
    have q1 : a = a' := by omega
    have q2 : b = b' := by omega
    have q3 : c = c' := by omega
    rw [q1, q2, q3]
  · rintro rfl; rfl
def NdR (H : Hp) (v : V) (t : Sh.Nd) : Prop := ∃ a, v = .ref a ∧ H a = some (.tup (ndV t))
/-- the numbers of the nodes -/
def numsV : Nat → List Sh.Nd → List (List Key × V)
  | _, [] => []
  | i, t :: r => (ndK t, .int ((i + 2 : Nat) : Int)) :: numsV (i + 1) r
theorem numsV_get : ∀ (ns : List Sh.Nd) (i : Nat) (t : Sh.Nd), valV (numsV i ns) (ndK t) = (Sh.num? ns i t).map fun k : Nat => V.int k
  | [], _, _ => rfl
  | u :: r, i, t => by
    unfold numsV Sh.num?
    by_cases h : u = t
    · subst h
      rw [if_pos rfl, valV_pos rfl]
      rfl
    · rw [if_neg h, valV_neg (fun e => h (ndK_inj.mp e)), numsV_get r]
theorem numsV_snoc : ∀ (ns : List Sh.Nd) (i : Nat) (t : Sh.Nd), numsV i (ns ++ [t]) = numsV i ns ++ [(ndK t, .int ((i + ns.length + 2 : Nat) : Int))]
  | [], i, t => rfl
  | u :: r, i, t => by
    rw [List.cons_append, numsV, numsV, numsV_snoc r, List.length_cons, List.cons_append]
    rw [show i + (r.length + 1) + 2 = i + 1 + r.length + 2 by omega]
theorem numsV_len : ∀ (ns : List Sh.Nd) (i : Nat), (numsV i ns).length = ns.length
  | [], _ => rfl
  | u :: r, i => by rw [numsV, List.length_cons, numsV_len r, List.length_cons]
theorem num_snoc : ∀ {ns : List Sh.Nd} {i : Nat} {u : Sh.Nd}, Sh.num? ns i u = none → Sh.num? (ns ++ [u]) i u = some (i + ns.length + 2)
  | [], i, u, _ => by simp [Sh.num?]
  | t :: r, i, u, e => by
    unfold Sh.num? at e
    by_cases h : t = u
    · rw [if_pos h] at e; cases e
    · rw [if_neg h] at e
      rw [List.cons_append, Sh.num?, if_neg h, num_snoc e, List.length_cons]
      congr 1
      omega
/-- a dict of pairs of nodes: what is known -/
structure KnV (kvs : List (List Key × V)) (kn : Sh.Kn) : Prop where
  get : ∀ a c : Nat, valV kvs [.inl a, .inl c] = (kn a c).map fun r : Nat => V.int r
  nd : (kvs.map (·.1)).Nodup
  sm : ∀ k ∈ kvs.map (·.1), ∃ a c : Nat, k = [.inl (a : Int), .inl (c : Int)] ∧ a < 2002 ∧ c < 2002
/-- numbers below n, none twice, are at most n -/
theorem nodup_lt : ∀ (n : Nat) (l : List Nat), l.Nodup → (∀ x ∈ l, x < n) → l.length ≤ n := by
  intro n
  induction n with
  | zero =>
    intro l _ h
    cases l with
    | nil => exact Nat.le_refl _
    | cons x l => exact absurd (h x List.mem_cons_self) (by omega)
  | succ n ih =>
    intro l nd h
    have h1 : (l.filter fun x => decide (x ≠ n)).length ≤ n := ih _ (nd.filter _) fun x hx => by
      obtain ⟨hx, e⟩ := List.mem_filter.mp hx
      have := h x hx
      have e := of_decide_eq_true e
      omega
    have h2 : ∀ l : List Nat, l.Nodup → l.length ≤ (l.filter fun x => decide (x ≠ n)).length + 1 := by
      intro l
      induction l with
      | nil => intro _; exact Nat.zero_le _
      | cons x l ih =>
        intro nd
        obtain ⟨n1, n2⟩ := List.nodup_cons.mp nd
        by_cases e : x = n
        · subst e
          have e1 : (l.filter fun y => decide (y ≠ x)) = l := List.filter_eq_self.mpr fun y hy => decide_eq_true fun z => n1 (z ▸ hy)
          rw [List.filter_cons_of_neg (by simp), e1, List.length_cons]
          exact Nat.le_refl _
        · rw [List.filter_cons_of_pos (by simpa using e), List.length_cons, List.length_cons]
          have := ih n2
          omega
    have := h2 l nd
    omega
theorem KnV.nil : KnV [] fun _ _ => none := ⟨fun _ _ => rfl, List.nodup_nil, fun _ h => by cases h⟩
theorem KnV.len {kvs : List (List Key × V)} {kn : Sh.Kn} (h : KnV kvs kn) : kvs.length ≤ 2002 * 2002 := by
  have key : ∀ l : List (List Key), l.Nodup → (∀ k ∈ l, ∃ a c : Nat, k = [.inl (a : Int), .inl (c : Int)] ∧ a < 2002 ∧ c < 2002) → ∃ m : List Nat, m.length = l.length ∧ m.Nodup ∧ (∀ x ∈ m, x < 2002 * 2002) ∧ ∀ x ∈ m, ∃ a c : Nat, x = a * 2002 + c ∧ c < 2002 ∧ [.inl (a : Int), .inl (c : Int)] ∈ l := by
    intro l
    induction l with
    | nil => intro _ _; exact ⟨[], rfl, List.nodup_nil, (fun _ h => nomatch h), (fun _ h => nomatch h)⟩
    | cons k l ih =>
      intro nd hs
      obtain ⟨n1, n2⟩ := List.nodup_cons.mp nd
      obtain ⟨m, e1, e2, e3, e4⟩ := ih n2 fun k hk => hs k (List.mem_cons_of_mem _ hk)
      obtain ⟨a, c, rfl, ha, hc⟩ := hs k List.mem_cons_self
      refine ⟨(a * 2002 + c) :: m, by simp [e1], List.nodup_cons.mpr ⟨fun hm => ?_, e2⟩, fun x hx => ?_, fun x hx => ?_⟩
      · obtain ⟨a', c', e, hc', hm'⟩ := e4 _ hm
        have : a = a' ∧ c = c' := by omega
        obtain ⟨rfl, rfl⟩ := this
        exact n1 hm'
      · rcases List.mem_cons.mp hx with rfl | hx
        · omega
        · exact e3 x hx
      · rcases List.mem_cons.mp hx with rfl | hx
        · exact ⟨a, c, rfl, hc, List.mem_cons_self⟩
        · obtain ⟨a', c', e, hc', hm'⟩ := e4 x hx
          exact ⟨a', c', e, hc', List.mem_cons_of_mem _ hm'⟩
  obtain ⟨m, e1, e2, e3, _⟩ := key _ h.nd h.sm
  rw [List.length_map] at e1
  rw [← e1]
  exact nodup_lt _ m e2 e3
theorem KnV.put {kvs : List (List Key × V)} {kn : Sh.Kn} (h : KnV kvs kn) {a c r : Nat} (ha : a < 2002) (hc : c < 2002) : KnV (putK kvs [.inl (a : Int), .inl (c : Int)] (.int r)) (Sh.kput kn a c r) := by
  have keys : ∀ k, k ∈ (putK kvs [.inl (a : Int), .inl (c : Int)] (V.int r)).map (·.1) → k ∈ kvs.map (·.1) ∨ k = [.inl (a : Int), .inl (c : Int)] := fun k hk => by
    unfold putK at hk
    split at hk
    · rw [List.map_map] at hk
      obtain ⟨p, hp, rfl⟩ := List.mem_map.mp hk
      left
      refine List.mem_map.mpr ⟨p, hp, ?_⟩
      simp only [Function.comp]
      split <;> rfl
    · rw [List.map_append, List.mem_append] at hk
      rcases hk with hk | hk
      · exact .inl hk
      · exact .inr (List.mem_singleton.mp hk)
  refine ⟨fun x y => ?_, ?_, fun k hk => ?_⟩
  · rw [valV_put]
    unfold Sh.kput
    by_cases e : x = a ∧ y = c
    · obtain ⟨rfl, rfl⟩ := e
      rw [if_pos rfl, if_pos ⟨rfl, rfl⟩]
      rfl
    · rw [if_neg e, if_neg, h.get]
      intro q
      simp only [List.cons.injEq, Sum.inl.injEq, and_true] at q
      exact e ⟨by omega, by omega⟩
  · unfold putK
    split
    · rw [List.map_map]
      have : (((fun kv : List Key × V => kv.1) ∘ fun kv : List Key × V => if kv.1 = [.inl (a : Int), .inl (c : Int)] then (kv.1, V.int r) else kv) = fun kv => kv.1) := by
        funext kv
        simp only [Function.comp]
        split <;> rfl
      rw [this]
      exact h.nd
    · rename_i hn
      rw [List.map_append, List.nodup_append]
      refine ⟨h.nd, by simp, fun x hx y hy e => hn ?_⟩
      obtain ⟨p, hp, rfl⟩ := List.mem_map.mp hx
      rw [List.any_eq_true]
      exact ⟨p, hp, decide_eq_true (e.trans (List.mem_singleton.mp hy))⟩
  · rcases keys k hk with hk | rfl
    · exact h.sm k hk
    · exact ⟨a, c, rfl, ha, hc⟩
/-- a sheet: its names, its nodes -/
structure ShO (C : Addr) (H : Hp) (x dx tn ln dn : Addr) (names : List Str) (ns : List Sh.Nd) : Prop where
  ob : H x = some (.ins C dx (shF tn ln dn))
  hn : TupN H tn (names.map V.str)
  hl : ∃ vs, H ln = some (.lst vs) ∧ Two (NdR H) vs ns
  hd : H dn = some (.dT (numsV 0 ns))
  le : ns.length ≤ 2000
/-- all stays but what stands at a, b, c -/
def K3 (a b c : Addr) (H H' : Hp) : Prop := ∀ q o, H q = some o → q ≠ a → q ≠ b → q ≠ c → H' q = some o
section
variable {a b c : Addr} {H H' H2 : Hp} {o : HO}
theorem K3.refl (H : Hp) : K3 a b c H H := fun _ _ e _ _ _ => e
theorem K3.trans (h : K3 a b c H H') (k : K3 a b c H' H2) : K3 a b c H H2 := fun q o e n1 n2 n3 => k q o (h q o e n1 n2 n3) n1 n2 n3
theorem _root_.Ru.Same.k3 (h : Same H H') : K3 a b c H H' := fun q o e _ _ _ => h q o e
theorem K3.ua : K3 a b c H (upd H a o) := fun q o e n1 _ _ => by rw [upd_ne n1]; exact e
theorem K3.ub : K3 a b c H (upd H b o) := fun q o e _ n2 _ => by rw [upd_ne n2]; exact e
theorem K3.uc : K3 a b c H (upd H c o) := fun q o e _ _ n3 => by rw [upd_ne n3]; exact e
theorem K3.new {p : Addr} (h : K3 a b c H H') (np : H p = none) : K3 a b c H (upd H' p o) := fun q u e n1 n2 n3 => by
  rw [upd_ne (ne_of_none e np)]
  exact h q u e n1 n2 n3
theorem K3.more (h : K3 a b b H H') : K3 a b c H H' := fun q o e n1 n2 _ => h q o e n1 n2 n2
/-- c was not there -/
theorem K3.drop {H0 : Hp} (s : Same H0 H) (h : K3 a b c H H') (n : H0 c = none) : K3 a b b H0 H' := fun q o e n1 n2 _ => h q o (s q o e) n1 n2 (ne_of_none e n)
theorem K3.imm {T : Addr → Prop} (h : K3 a b c H H') (na : ∀ o, H a = some o → ¬ ImmO T o) (nb : ∀ o, H b = some o → ¬ ImmO T o) (nc : ∀ o, H c = some o → ¬ ImmO T o) : Imm T H H' := fun q o e i =>
  h q o e (fun z => na o (z ▸ e) i) (fun z => nb o (z ▸ e) i) (fun z => nc o (z ▸ e) i)
end
section
variable {C x dx tn ln dn : Addr} {H H' : Hp} {names : List Str} {ns : List Sh.Nd}
theorem ShO.keep (s : ShO C H x dx tn ln dn names ns) (k : Same H H') : ShO C H' x dx tn ln dn names ns :=
  ⟨k _ _ s.ob, s.hn.keep k, let ⟨vs, h1, h2⟩ := s.hl; ⟨vs, k _ _ h1, h2.mono fun v t ⟨a, e, h⟩ => ⟨a, e, k _ _ h⟩⟩, k _ _ s.hd, s.le⟩
theorem ShO.n_ln (s : ShO C H x dx tn ln dn names ns) {q : Addr} {o : HO} (e : H q = some o) (h : ∀ vs, o ≠ .lst vs) : q ≠ ln := fun z => by
  obtain ⟨vs, h1, _⟩ := s.hl
  rw [z, h1] at e
  cases e
  exact h vs rfl
theorem ShO.n_dn (s : ShO C H x dx tn ln dn names ns) {q : Addr} {o : HO} (e : H q = some o) (h : ∀ kvs, o ≠ .dT kvs) : q ≠ dn := fun z => by
  rw [z, s.hd] at e
  cases e
  exact h _ rfl
/-- nothing of it is at c -/
theorem ShO.far (s : ShO C H x dx tn ln dn names ns) (k : K3 c c c H H') {o : HO} (hc : H c = some o) (n1 : ∀ D d fs, o ≠ .ins D d fs) (n2 : ∀ vs, o ≠ .tup vs) (n5 : ∀ a b, o ≠ .frz a b) (n3 : c ≠ ln) (n4 : c ≠ dn) : ShO C H' x dx tn ln dn names ns := by
  have off : ∀ {q : Addr} {u : HO}, H q = some u → u ≠ o → H' q = some u := fun {q u} e n => by
    have : q ≠ c := fun z => by rw [z, hc] at e; cases e; exact n rfl
    exact k q u e this this this
  obtain ⟨vs, h1, h2⟩ := s.hl
  exact ⟨off s.ob (fun e => n1 _ _ _ e.symm), (let ⟨o2, e2, d2⟩ := s.hn; ⟨o2, off e2 (fun e => n5 _ _ e.symm), d2⟩), ⟨vs, k _ _ h1 n3.symm n3.symm n3.symm, h2.mono fun v t ⟨a, e, h⟩ => ⟨a, e, off h (fun e => n2 _ e.symm)⟩⟩, k _ _ s.hd n4.symm n4.symm n4.symm, s.le⟩
theorem ShO.at (s : ShO C H x dx tn ln dn names ns) {k : Nat} {t : Sh.Nd} (h2 : 2 ≤ k) (e : ns[k - 2]? = some t) : ∃ vs a, H ln = some (.lst vs) ∧ atI vs ((k : Int) - 2) = some (.ref a) ∧ H a = some (.tup (ndV t)) ∧ vs.length = ns.length := by
  obtain ⟨vs, h1, h3⟩ := s.hl
  have hl := h3.length
  have hk := (List.getElem?_eq_some_iff.mp e).1
  have hv : vs[k - 2]? = some vs[k - 2] := List.getElem?_eq_getElem (by omega)
  obtain ⟨u, e1, a, e2, h4⟩ := h3.at hv
  rw [e] at e1
  cases e1
  exact ⟨vs, a, h1, atI_int (by omega) (by rw [show ((k : Int) - 2).toNat = k - 2 by omega, hv, e2]), h4, hl⟩
theorem K3.tup {c : Addr} {kvs : List (List Key × V)} (k : K3 ln dn c H H') (s : ShO C H x dx tn ln dn names ns) (hc : H c = some (.dT kvs)) {q : Addr} {zs : List V} (e : H q = some (.tup zs)) : H' q = some (.tup zs) :=
  k q _ e (s.n_ln e fun _ e => by cases e) (s.n_dn e fun _ e => by cases e) (fun z => by rw [z, hc] at e; cases e)
end
structure TSheet (K : PySem.W.Frag) (mg : Str → Option Value) (xc : Xc) (cs : Addr) : Prop where
  e_many : ExcAt K mg "TooMany" xc.many xc.err
  c_Sheet : ClsAt K mg "Sheet" cs
  n_names : NoAttr K cs "names"
  n_nodes : NoAttr K cs "nodes"
  n_numbers : NoAttr K cs "numbers"
  m_place : MethAt K cs "place" "Sheet.place" s_Sheet_place ["self", "node"]
  m_made : MethAt K cs "made" "Sheet.made" s_Sheet_made ["self", "place", "low", "high"]
  m_below : MethAt K cs "below" "Sheet.below" s_Sheet_below ["self", "node", "place"]
  m_joined : MethAt K cs "joined" "Sheet.joined" s_Sheet_joined ["self", "one", "other", "stop", "known"]
  g_MOST_NODES : GlobC mg "MOST_NODES" (.int 2000)
  z_len : mg "len" = none
  z_min : mg "min" = none
section
variable {P : Program} {w : World} {K : PySem.W.Frag} {mg : Str → Option Value} {base : Heap} {xc : Xc} {cs : Addr}
def spPlace (cs : Addr) : Sp := fun vs H Q _ => ∃ (x dx tn ln dn : Addr) (names : List Str) (ns : List Sh.Nd) (k : Nat), vs = [.ref x, .int k] ∧ ShO cs H x dx tn ln dn names ns ∧ k < ns.length + 2 ∧ Q (.int (Sh.pl names.length ns k : Nat)) H
theorem disp_place (T : TSheet K mg xc cs) : DispAt P w K mg base CX0 (fun C => C = cs) "place" 1 ["self", "node"] (fun _ => spPlace cs) := by
  refine ⟨fun C hC => ?_⟩
  subst hC
  refine methAt_ok T.c_Sheet.cl T.m_place sc_Sheet_place (fun vs H Q E h => ?_) (fun f cdv A outer st H vs Q E hr h => ?_)
  · obtain ⟨x, dx, tn, ln, dn, names, ns, k, rfl, _⟩ := h; rfl
  · obtain ⟨x, dx, tn, ln, dn, names, ns, k, rfl, s, hk, q⟩ := h
    have hu := hu_of hr
    refine ⟨_, (pss_cons (ps_if (pt_cmpR op_lt (pv 1) pe_int (nomark _)) (pss_one (ps_ret (pe_callB call_len_seq (by rfl) T.z_len PySem.boot_len (pa_cons (pe_fld (pv 0) rfl) pa_nil)))) pss_nil)
        (pss_one (ps_ret (pe_ix ix_tup (pe_ix ix_list (pe_fld (pv 0) rfl) (pe_op op_sub (pv 1) pe_int) (fun _ _ => rfl)) pe_int (fun _ _ => rfl))))), ?_⟩
    walk_at "rd"
    by_cases h2 : k < 2
    · rw [decide_eq_true (show (k : Int) < 2 by omega)]
      rw [Sh.pl_low h2] at q
      refine iteT ⟨_, rfl, x, _, dx, _, _, rfl, s.ob, T.c_Sheet.cl, T.n_names, lkS1, tn, rfl, _, .inr s.hn.sq, ?_⟩
      rw [List.length_map]
      exact q
    · rw [decide_eq_false (show ¬ (k : Int) < 2 by omega)]
      obtain ⟨p, l, h, e⟩ := Sh.at_some (by omega : 2 ≤ k) hk
      rw [Sh.pl_at (by omega) e] at q
      obtain ⟨vs, a, h1, h3, h4, h5⟩ := s.at (by omega) e
      exact iteF ⟨_, rfl, x, _, dx, _, _, rfl, s.ob, T.c_Sheet.cl, T.n_nodes, lkS2, ln, vs, _, .ref a, rfl, rfl, SqL.of h1, h3, a, _, 0, .int p, rfl, rfl, SqT.of h4, rfl, q⟩
def spMade (cs : Addr) (xc : Xc) : Sp := fun vs H Q E => ∃ (x dx tn ln dn : Addr) (names : List Str) (ns : List Sh.Nd) (p l h : Nat), vs = [.ref x, .int p, .int l, .int h] ∧ ShO cs H x dx tn ln dn names ns ∧
  ((Sh.made ns p l h).2.length ≤ 2000 → ∀ H', K3 ln dn dn H H' → ShO cs H' x dx tn ln dn names (Sh.made ns p l h).2 → Q (.int ((Sh.made ns p l h).1 : Nat)) H') ∧
  (2000 < (Sh.made ns p l h).2.length → ∀ H', Same H H' → E (.ref xc.many) none H')
theorem disp_made (T : TSheet K mg xc cs) : DispAt P w K mg base (L2.CX P w) (fun C => C = cs) "made" 1 ["self", "place", "low", "high"] (fun _ => spMade cs xc) := by
  have e_TooMany := T.e_many
  refine ⟨fun C hC => ?_⟩
  subst hC
  refine methAt_okX T.c_Sheet.cl T.m_made sc_Sheet_made (fun vs H Q E h => ?_) (fun f cdv A outer st H vs Q E hr h => ?_)
  · obtain ⟨x, dx, tn, ln, dn, names, ns, p, l, h, rfl, _⟩ := h; rfl
  · obtain ⟨x, dx, tn, ln, dn, names, ns, p, l, h, rfl, s, q, qx⟩ := h
    have hu := hu_of hr
    refine ⟨_, (pss_cons (ps_if (pt_cmpR op_eq (pv 2) (pv 3) (nomark _)) (pss_one (ps_ret (pv 2))) pss_nil)
        (pss_cons (ps_set (i := 4) sc_Sheet_made.nd rfl (by first | exact Or.inl rfl | exact Or.inr rfl) (pe_tup (pa_cons (pv 1) (pa_cons (pv 2) (pa_cons (pv 3) pa_nil)))))
        (C8.pss_cut (ps_if (pt_cmp (pc_dnotin hu (pv 4) (pe_fld (pv 0) rfl))) (pss_cons (ps_if (pt_cmpR op_eq (pe_callB call_len_seq (by rfl) T.z_len PySem.boot_len (pa_cons (pe_fld (pv 0) rfl) pa_nil)) (pe_gc T.g_MOST_NODES) (nomark _)) (pss_one (ps_raiseO rfl e_TooMany (L2.takes_of rfl rfl rfl rfl))) pss_nil)
          (pss_cons (ps_expr (pe_bm PySem.F.plainAttrs_list PySem.F.slot_list_append PySem.F.type_list_append mt_append (pe_fld (pv 0) rfl) (pa_cons (pv 4) pa_nil)))
          (pss_one (ps_dput hu (pe_fld (pv 0) rfl) (pv 4) (pe_op op_add (pe_callB call_len_seq (by rfl) T.z_len PySem.boot_len (pa_cons (pe_fld (pv 0) rfl) pa_nil)) pe_int) rfl)))) pss_nil)
        (pss_one (ps_ret (pe_dget (by exact hu) (pe_fld (pv 0) rfl) (pv 4) (fun _ _ => rfl))))))), ?_⟩
    walk_at "rd"
    by_cases hlh : l = h
    · subst hlh
      rw [decide_eq_true (show (l : Int) = (l : Int) from rfl)]
      have e : Sh.made ns p l l = (l, ns) := by unfold Sh.made; rw [if_pos rfl]
      rw [e] at q
      exact iteT (q s.le H (K3.refl H) s)
    · rw [decide_eq_false (show ¬ ((l : Int) = (h : Int)) by omega)]
      refine iteF ⟨line_ge (by simp), fun pk nk => ?_⟩
      have s1 : Same H (upd H pk (.tup (ndV (p, l, h)))) := Same.new nk
      have hk1 : upd H pk (.tup (ndV (p, l, h))) pk = some (.tup (ndV (p, l, h))) := upd_same
      show C8.tCut _ _ _ _ (upd H pk (.tup (ndV (p, l, h))))
      generalize upd H pk (.tup (ndV (p, l, h))) = H1 at s1 hk1 ⊢
      have sh1 := s.keep s1
      have n1 : pk ≠ ln := sh1.n_ln hk1 (fun _ e => by cases e)
      have n2 : pk ≠ dn := sh1.n_dn hk1 (fun _ e => by cases e)
      have hget := numsV_get ns 0 (p, l, h)
      refine ⟨fun σ' H' => σ' = [some (.ref x), some (.int p), some (.int l), some (.int h), some (.ref pk)] ∧ K3 ln dn dn H H' ∧ ShO C H' x dx tn ln dn names (Sh.made ns p l h).2 ∧ H' pk = some (.tup (ndV (p, l, h))) ∧ Sh.num? (Sh.made ns p l h).2 0 (p, l, h) = some (Sh.made ns p l h).1, ?_, ?_⟩
      · walk_at "rd"
        refine ⟨_, rfl, _, rfl, x, _, dx, _, _, rfl, sh1.ob, T.c_Sheet.cl, T.n_numbers, lkS3, dn, _, rfl, DGet.t (k := ndK (p, l, h)) sh1.hd hk1, ?_⟩
        rw [hget]
        cases e : Sh.num? ns 0 (p, l, h) with
        | some k =>
          have e2 : Sh.made ns p l h = (k, ns) := by unfold Sh.made; rw [if_neg hlh, e]
          rw [e2]
          exact ⟨false, rfl, iteF ⟨Same.k3 s1, sh1, hk1, e⟩⟩
        | none =>
          have e2 : Sh.made ns p l h = (ns.length + 2, ns ++ [(p, l, h)]) := by unfold Sh.made; rw [if_neg hlh, e]
          rw [e2] at q qx ⊢
          simp only [List.length_append, List.length_singleton] at q qx
          obtain ⟨vs, hv1, hv2⟩ := sh1.hl
          have hvl := hv2.length
          refine ⟨true, rfl, iteT ⟨_, rfl, x, _, dx, _, _, rfl, sh1.ob, T.c_Sheet.cl, T.n_nodes, lkS2, ln, rfl, _, .inl (SqL.of hv1), ?_⟩⟩
          by_cases hfull : ns.length = 2000
          · rw [decide_eq_true (show (vs.length : Int) = 2000 by omega)]
            exact iteT (qx (by omega) H1 s1)
          · rw [decide_eq_false (show ¬ (vs.length : Int) = 2000 by omega)]
            refine iteF ?_
            unfold tBM
            walk_at "rd"
            refine ⟨_, rfl, x, _, dx, _, _, rfl, sh1.ob, T.c_Sheet.cl, T.n_nodes, lkS2, .inl ⟨rfl, _, SqL.of hv1⟩, ln, vs, .ref pk, rfl, rfl, hv1, by rw [sizeLine_eq]; have := s.le; omega, ?_⟩
            have hv3 : upd H1 ln (.lst (vs ++ [.ref pk])) ln = some (.lst (vs ++ [.ref pk])) := upd_same
            have off : ∀ {q : Addr} {o : HO}, H1 q = some o → q ≠ ln → upd H1 ln (.lst (vs ++ [.ref pk])) q = some o := fun {q o} e n => by rw [upd_ne n]; exact e
            have k13 : K3 ln dn dn H1 (upd H1 ln (.lst (vs ++ [.ref pk]))) := K3.ua
            generalize upd H1 ln (.lst (vs ++ [.ref pk])) = H3 at hv3 off k13 ⊢
            have ob3 := off sh1.ob (sh1.n_ln sh1.ob fun _ e => by cases e)
            have hd3 := off sh1.hd (sh1.n_ln sh1.hd fun _ e => by cases e)
            have hk3 := off hk1 n1
            have ndl : dn ≠ ln := sh1.n_ln sh1.hd fun _ e => by cases e
            refine ⟨_, rfl, x, _, dx, _, _, rfl, ob3, T.c_Sheet.cl, T.n_nodes, lkS2, ln, rfl, _, .inl (SqL.of hv3), _, _, rfl, rfl, _, rfl, x, _, dx, _, _, rfl, ob3, T.c_Sheet.cl, T.n_numbers, lkS3, _, rfl, dn, _, rfl, DPut.t (k := ndK (p, l, h)) hd3 hk3 (by rw [numsV_len, sizeLine_eq]; have := s.le; omega), ?_⟩
            rw [putK_new _ (by rw [hget, e]; rfl)]
            show _ ∧ _
            have ev : ((fun i j : Int => V.int (i + j)) ((vs ++ [V.ref pk]).length : Nat) 1) = V.int ((0 + ns.length + 2 : Nat) : Int) := by
              show V.int _ = V.int _
              rw [List.length_append, List.length_singleton]
              congr 1
              omega
            rw [ev, ← numsV_snoc]
            have k34 : K3 ln dn dn H3 (upd H3 dn (.dT (numsV 0 (ns ++ [(p, l, h)])))) := K3.ub
            have hd4 : upd H3 dn (.dT (numsV 0 (ns ++ [(p, l, h)]))) dn = some (.dT (numsV 0 (ns ++ [(p, l, h)]))) := upd_same
            have off4 : ∀ {q : Addr} {o : HO}, H3 q = some o → q ≠ dn → upd H3 dn (.dT (numsV 0 (ns ++ [(p, l, h)]))) q = some o := fun {q o} e n => by rw [upd_ne n]; exact e
            generalize upd H3 dn (.dT (numsV 0 (ns ++ [(p, l, h)]))) = H4 at k34 hd4 off4 ⊢
            have tup4 : ∀ {q : Addr} {zs : List V}, H1 q = some (.tup zs) → H4 q = some (.tup zs) := fun {q zs} e => off4 (off e (sh1.n_ln e fun _ e => by cases e)) (sh1.n_dn e fun _ e => by cases e)
            refine ⟨rfl, K3.trans (Same.k3 s1) (K3.trans k13 k34), ⟨off4 ob3 (sh1.n_dn sh1.ob fun _ e => by cases e), (let ⟨o2, e2, d2⟩ := sh1.hn; ⟨o2, off4 (off e2 (sh1.n_ln e2 fun _ e => by cases e)) (sh1.n_dn e2 fun _ e => by cases e), d2⟩), ⟨_, off4 hv3 ndl.symm, (hv2.mono fun v t ⟨a, e, h⟩ => ⟨a, e, tup4 h⟩).app (Two.one ⟨pk, rfl, tup4 hk1⟩)⟩, hd4, by have := s.le; simp; omega⟩, tup4 hk1, ?_⟩
            have en := num_snoc e
            rw [Nat.zero_add] at en
            exact en
      · rintro σ' H' ⟨rfl, k2, sh2, hk2, e⟩
        walk_at "rd"
        refine ⟨_, rfl, x, _, dx, _, _, rfl, sh2.ob, T.c_Sheet.cl, T.n_numbers, lkS3, _, rfl, dn, .int ((Sh.made ns p l h).1 : Nat), rfl, ?_, q sh2.le H' k2 sh2⟩
        have g := DGet.t (k := ndK (p, l, h)) sh2.hd hk2
        rw [numsV_get, e] at g
        exact g
def spBelow (cs : Addr) : Sp := fun vs H Q _ => ∃ (x dx tn ln dn : Addr) (names : List Str) (ns : List Sh.Nd) (k p : Nat), vs = [.ref x, .int k, .int p] ∧ ShO cs H x dx tn ln dn names ns ∧ k < ns.length + 2 ∧ p < names.length ∧
  ∀ (H' : Hp) (t : Addr), Same H H' → H' t = some (.tup [.int (Sh.below names.length ns k p).1, .int (Sh.below names.length ns k p).2]) → Q (.ref t) H'
theorem disp_below (T : TSheet K mg xc cs) : DispAt P w K mg base CX0 (fun C => C = cs) "below" 2 ["self", "node", "place"] (fun _ => spBelow cs) := by
  have G_place : DispAt P w K mg base CX0 (fun C => C = cs) "place" 1 ["self", "node"] (fun _ => spPlace cs) := disp_place T
  refine ⟨fun C hC => ?_⟩
  subst hC
  refine methAt_ok T.c_Sheet.cl T.m_below sc_Sheet_below (fun vs H Q E h => ?_) (fun f cdv A outer st H vs Q E hr h => ?_)
  · obtain ⟨x, dx, tn, ln, dn, names, ns, k, p, rfl, _⟩ := h; rfl
  · obtain ⟨x, dx, tn, ln, dn, names, ns, k, p, rfl, s, hk, hp, q⟩ := h
    have hu := hu_of hr
    refine ⟨_, (pss_cons (ps_if (pt_cmpR op_gt (pe_methD G_place hr pass0 (pv 0) (pa_cons (pv 1) pa_nil)) (pv 2) (nomark _)) (pss_one (ps_ret (pe_tup (pa_cons (pv 1) (pa_cons (pv 1) pa_nil))))) pss_nil)
        (pss_one (ps_ret (pe_slice sl_tup (pe_ix ix_list (pe_fld (pv 0) rfl) (pe_op op_sub (pv 1) pe_int) (fun _ _ => rfl)) (po_some pe_int) po_none)))), ?_⟩
    walk_at "rd"
    refine ⟨_, rfl, x, C, dx, _, rfl, s.ob, rfl, lkSn (by decide +kernel), _, rfl, x, dx, tn, ln, dn, names, ns, k, rfl, s, hk, _, rfl, ?_⟩
    by_cases h : p < Sh.pl names.length ns k
    · have e : Sh.below names.length ns k p = (k, k) := if_pos h
      rw [e] at q
      rw [decide_eq_true (show (p : Int) < (Sh.pl names.length ns k : Nat) by omega)]
      exact iteT ⟨line_ge (by simp), fun t nt => q _ t (Same.new nt) upd_same⟩
    · rw [decide_eq_false (show ¬ (p : Int) < (Sh.pl names.length ns k : Nat) by omega)]
      have h2 : 2 ≤ k := by
        by_cases h2 : k < 2
        · rw [Sh.pl_low h2] at h; omega
        · omega
      obtain ⟨p', l, g, e⟩ := Sh.at_some h2 hk
      have e2 : Sh.below names.length ns k p = (l, g) := by unfold Sh.below; rw [if_neg h, e]
      rw [e2] at q
      obtain ⟨vs, t, h1, h3, h4, h5⟩ := s.at h2 e
      refine iteF ⟨_, rfl, x, _, dx, _, _, rfl, s.ob, T.c_Sheet.cl, T.n_nodes, lkS2, ln, vs, _, .ref t, rfl, rfl, SqL.of h1, h3, ?_⟩
      exact ⟨t, _, rfl, SqT.of h4, by show ¬ (HT.sIx 3 0 (some 1) = 0 ∧ HT.sIx 3 3 none = 3); decide, fun t2 nt => q _ t2 (Same.new nt) upd_same⟩
def spSJoin (cs : Addr) (xc : Xc) (f : Nat) : Sp := fun vs H Q E => ∃ (x dx tn ln dn kd : Addr) (names : List Str) (ns ns' : List Sh.Nd) (kn kn' : Sh.Kn) (kvs : List (List Key × V)) (a c stop r : Nat), vs = [.ref x, .int a, .int c, .int stop, .ref kd] ∧ stop < 2 ∧
  ShO cs H x dx tn ln dn names ns ∧ Sh.Wf names.length ns ∧ Sh.KnOk names.length stop ns kn ∧ H kd = some (.dT kvs) ∧ KnV kvs kn ∧ kd ≠ dn ∧ a < ns.length + 2 ∧ c < ns.length + 2 ∧ names.length < f + min (Sh.pl names.length ns a) (Sh.pl names.length ns c) ∧
  Sh.join names.length stop f ns kn a c = some (r, ns', kn') ∧
  (ns'.length ≤ 2000 → ∀ H' kvs', K3 ln dn kd H H' → ShO cs H' x dx tn ln dn names ns' → H' kd = some (.dT kvs') → KnV kvs' kn' → Q (.int r) H') ∧
  (2000 < ns'.length → ∀ H', K3 ln dn kd H H' → ShO cs H' x dx tn ln dn names (ns'.take 2000) → E (.ref xc.many) none H')
theorem ok_sjoin (T : TSheet K mg xc cs) {f k : Nat} (GX_joined : DispAt P w K mg base (L2.CX P w) (fun C => C = cs) "joined" k ["self", "one", "other", "stop", "known"] (fun _ => spSJoin cs xc f)) (hk : 3 ≤ k) :
    DispAt P w K mg base (L2.CX P w) (fun C => C = cs) "joined" (k + 1) ["self", "one", "other", "stop", "known"] (fun _ => spSJoin cs xc (f + 1)) := by
  have G_place : DispAt P w K mg base CX0 (fun C => C = cs) "place" 1 ["self", "node"] (fun _ => spPlace cs) := disp_place T
  have G_below : DispAt P w K mg base CX0 (fun C => C = cs) "below" 2 ["self", "node", "place"] (fun _ => spBelow cs) := disp_below T
  have GX_made : DispAt P w K mg base (L2.CX P w) (fun C => C = cs) "made" 1 ["self", "place", "low", "high"] (fun _ => spMade cs xc) := disp_made T
  refine ⟨fun C hC => ?_⟩
  subst hC
  refine methAt_okX T.c_Sheet.cl T.m_joined sc_Sheet_joined (fun vs H Q E h => ?_) (fun fa cdv A outer st H vs Q E hr h => ?_)
  · obtain ⟨x, dx, tn, ln, dn, kd, names, ns, ns', kn, kn', kvs, a, c, stop, r, rfl, _⟩ := h; rfl
  · obtain ⟨x, dx, tn, ln, dn, kd, names, ns, ns', kn, kn', kvs, a, c, stop, r, rfl, hs, s, wf, hkn, hkd, kv, nkd, ha, hc, hf, hj, q, qx⟩ := h
    have hu := hu_of hr
    refine ⟨_, (pss_cons (ps_if (PW.pt (pw_or (pt_cmpR op_eq (pv 1) (pv 3) (nomark _)) (pw_or1 (pt_cmpR op_eq (pv 2) (pv 3) (nomark _))))) (pss_one (ps_ret (pv 3))) pss_nil)
        (pss_cons (ps_if (PW.pt (pw_or (pt_cmpR op_eq (pv 1) (pe_op op_sub pe_int (pv 3)) (nomark _)) (pw_or1 (pt_cmpR op_eq (pv 1) (pv 2) (nomark _))))) (pss_one (ps_ret (pv 2))) pss_nil)
        (pss_cons (ps_if (pt_cmpR op_eq (pv 2) (pe_op op_sub pe_int (pv 3)) (nomark _)) (pss_one (ps_ret (pv 1))) pss_nil)
        (C8.pss_cut (ps_if (pt_cmp (pc_dnotin hu (pe_tup (pa_cons (pv 1) (pa_cons (pv 2) pa_nil))) (pv 4))) (pss_cons (ps_set (i := 5) sc_Sheet_joined.nd rfl (by first | exact Or.inl rfl | exact Or.inr rfl) (pe_callB (call_min2 rfl) (by rfl) T.z_min (by decide +kernel) (pa_cons (pe_methD G_place hr pass0 (pv 0) (pa_cons (pv 1) pa_nil) (by omega)) (pa_cons (pe_methD G_place hr pass0 (pv 0) (pa_cons (pv 2) pa_nil) (by omega)) pa_nil))))
          (pss_cons (ps_set (i := 6) sc_Sheet_joined.nd rfl (by first | exact Or.inl rfl | exact Or.inr rfl) (pe_methD G_below hr pass0 (pv 0) (pa_cons (pv 1) (pa_cons (pv 5) pa_nil)) (by omega)))
          (pss_cons (ps_set (i := 7) sc_Sheet_joined.nd rfl (by first | exact Or.inl rfl | exact Or.inr rfl) (pe_methD G_below hr pass0 (pv 0) (pa_cons (pv 2) (pa_cons (pv 5) pa_nil)) (by omega)))
          (pss_cons (ps_set (i := 8) sc_Sheet_joined.nd rfl (by first | exact Or.inl rfl | exact Or.inr rfl) (pe_methD GX_joined hr (passX (L2.takes_of rfl rfl rfl rfl)) (pv 0) (pa_cons (pe_ix ix_tup (pv 6) pe_int (fun _ _ => rfl)) (pa_cons (pe_ix ix_tup (pv 7) pe_int (fun _ _ => rfl)) (pa_cons (pv 3) (pa_cons (pv 4) pa_nil)))) (Nat.le_refl _)))
          (pss_one (ps_dput hu (pv 4) (pe_tup (pa_cons (pv 1) (pa_cons (pv 2) pa_nil))) (pe_methD GX_made hr (passX (L2.takes_of rfl rfl rfl rfl)) (pv 0) (pa_cons (pv 5) (pa_cons (pv 8) (pa_cons (pe_methD GX_joined hr (passX (L2.takes_of rfl rfl rfl rfl)) (pv 0) (pa_cons (pe_ix ix_tup (pv 6) pe_int (fun _ _ => rfl)) (pa_cons (pe_ix ix_tup (pv 7) pe_int (fun _ _ => rfl)) (pa_cons (pv 3) (pa_cons (pv 4) pa_nil)))) (Nat.le_refl _)) pa_nil))) (by omega)) rfl)))))) pss_nil)
        (pss_one (ps_ret (pe_dget (by exact hu) (pv 4) (pe_tup (pa_cons (pv 1) (pa_cons (pv 2) pa_nil))) (fun _ _ => rfl)))))))), ?_⟩
    walk_at "rd"
    unfold Sh.join at hj
    by_cases e1 : a = stop
    · rw [if_pos (.inl e1)] at hj
      cases hj
      rw [decide_eq_true (show (a : Int) = (stop : Int) by omega)]
      exact iteT (q s.le H kvs (K3.refl H) s hkd kv)
    rw [decide_eq_false (show ¬ (a : Int) = (stop : Int) by omega)]
    refine iteF ?_
    by_cases e2 : c = stop
    · rw [if_pos (.inr e2)] at hj
      cases hj
      rw [decide_eq_true (show (c : Int) = (stop : Int) by omega)]
      exact iteT (q s.le H kvs (K3.refl H) s hkd kv)
    rw [decide_eq_false (show ¬ (c : Int) = (stop : Int) by omega)]
    refine iteF ?_
    rw [if_neg (fun z => z.elim e1 e2)] at hj
    by_cases e3 : a = 1 - stop
    · rw [if_pos (.inl e3)] at hj
      cases hj
      rw [decide_eq_true (show (a : Int) = 1 - (stop : Int) by omega)]
      exact iteT (q s.le H kvs (K3.refl H) s hkd kv)
    rw [decide_eq_false (show ¬ (a : Int) = 1 - (stop : Int) by omega)]
    refine iteF ?_
    by_cases e4 : a = c
    · rw [if_pos (.inr e4)] at hj
      cases hj
      rw [decide_eq_true (show (a : Int) = (c : Int) by omega)]
      exact iteT (q s.le H kvs (K3.refl H) s hkd kv)
    rw [decide_eq_false (show ¬ (a : Int) = (c : Int) by omega)]
    refine iteF ?_
    rw [if_neg (fun z => z.elim e3 e4)] at hj
    by_cases e5 : c = 1 - stop
    · rw [if_pos e5] at hj
      cases hj
      rw [decide_eq_true (show (c : Int) = 1 - (stop : Int) by omega)]
      exact iteT (q s.le H kvs (K3.refl H) s hkd kv)
    rw [decide_eq_false (show ¬ (c : Int) = 1 - (stop : Int) by omega)]
    refine iteF ?_
    rw [if_neg e5] at hj
    have hle := s.le
    refine ⟨fun σ' H' => ∃ (v5 v6 v7 v8 : Option V) (kvs' : List (List Key × V)), σ' = [some (.ref x), some (.int a), some (.int c), some (.int stop), some (.ref kd), v5, v6, v7, v8] ∧ K3 ln dn kd H H' ∧ ShO C H' x dx tn ln dn names ns' ∧ H' kd = some (.dT kvs') ∧ KnV kvs' kn' ∧ kn' a c = some r, ?_, ?_⟩
    · walk_at "rd"
      refine ⟨_, rfl, _, rfl, line_ge (by simp), fun p1 n1 => ?_⟩
      have s1 : Same H (upd H p1 (.tup [.int a, .int c])) := Same.new n1
      have hp1 : upd H p1 (.tup [.int a, .int c]) p1 = some (.tup [.int a, .int c]) := upd_same
      generalize upd H p1 (.tup [.int a, .int c]) = H1 at s1 hp1 ⊢
      refine ⟨_, rfl, kd, _, rfl, DGet.t (k := [.inl (a : Int), .inl (c : Int)]) (s1 _ _ hkd) hp1, ?_⟩
      rw [kv.get]
      cases hk2 : kn a c with
      | some r' =>
        rw [hk2] at hj
        cases hj
        exact ⟨false, rfl, iteF ⟨_, _, _, _, ⟨rfl, rfl, rfl, rfl⟩, Same.k3 s1, s.keep s1, kvs, s1 _ _ hkd, kv, hk2⟩⟩
      | none =>
        rw [hk2] at hj
        refine ⟨true, rfl, iteT ?_⟩
        have ha2 : 2 ≤ a := by omega
        have hc2 : 2 ≤ c := by omega
        have hpa := wf.pl_lt ha2 ha
        have hpc := wf.pl_lt hc2 hc
        have s0 := s.keep s1
        have hkd1 := s1 _ _ hkd
        refine ⟨_, rfl, x, C, dx, _, rfl, s0.ob, rfl, lkSn (by decide +kernel), _, rfl, x, dx, tn, ln, dn, names, ns, a, rfl, s0, ha, _, rfl, x, C, dx, _, rfl, s0.ob, rfl, lkSn (by decide +kernel), _, rfl, x, dx, tn, ln, dn, names, ns, c, rfl, s0, hc, _, _, ⟨rfl, rfl⟩, ?_⟩
        have hmin : (if ((Sh.pl names.length ns c : Nat) : Int) < (Sh.pl names.length ns a : Nat) then ((Sh.pl names.length ns c : Nat) : Int) else (Sh.pl names.length ns a : Nat)) = ((min (Sh.pl names.length ns a) (Sh.pl names.length ns c) : Nat) : Int) := by split <;> omega
        rw [hmin]
        clear hmin
        generalize hp : min (Sh.pl names.length ns a) (Sh.pl names.length ns c) = p at *
        have hpn : p < names.length := by omega
        obtain ⟨a1, a2, a3, a4, _⟩ := wf.below (p := p) ha (by omega) hpn
        obtain ⟨d1, d2, d3, d4, _⟩ := wf.below (p := p) hc (by omega) hpn
        refine ⟨_, rfl, x, C, dx, _, rfl, s0.ob, rfl, lkSn (by decide +kernel), _, rfl, _, rfl, x, dx, tn, ln, dn, names, ns, a, p, rfl, s0, ha, hpn, fun H2 t2 s2 ht2 => ?_⟩
        have s02 := s0.keep s2
        refine ⟨_, rfl, x, C, dx, _, rfl, s02.ob, rfl, lkSn (by decide +kernel), _, rfl, _, rfl, x, dx, tn, ln, dn, names, ns, c, p, rfl, s02, hc, hpn, fun H3 t3 s3 ht3 => ?_⟩
        have s03 := s02.keep s3
        have ht2 := s3 _ _ ht2
        have hkd3 := s3 _ _ (s2 _ _ hkd1)
        have k03 : Same H H3 := (s1.trans s2).trans s3
        generalize Sh.below names.length ns a p = A at *
        generalize Sh.below names.length ns c p = D at *
        obtain ⟨l, m1, kn1, e1', w1, k1, l1, l2, l3, l4, l5⟩ := Sh.Wf.join hs f ns kn A.1 D.1 wf hkn a1 d1 (by omega)
        have A2 : A.2 < (ns ++ m1).length + 2 := by rw [List.length_append]; omega
        have D2 : D.2 < (ns ++ m1).length + 2 := by rw [List.length_append]; omega
        obtain ⟨h, m2, kn2, e2', w2, k2, g1, g2, g3, g4, g5⟩ := Sh.Wf.join hs f (ns ++ m1) kn1 A.2 D.2 w1 k1 A2 D2 (by rw [Sh.pl_app a2, Sh.pl_app d2]; omega)
        have L2' : l < (ns ++ m1 ++ m2).length + 2 := by rw [List.length_append]; omega
        have pL : Sh.pl names.length (ns ++ m1 ++ m2) l = Sh.pl names.length (ns ++ m1) l := Sh.pl_app l1
        rw [Sh.pl_app a2, Sh.pl_app d2] at g3
        obtain ⟨r3, m3, e3', w3, r1, r2, r3', r4, r5⟩ := w2.made (p := p) (l := l) (h := h) hpn L2' g1 (by omega) (by omega)
        rw [e1'] at hj
        dsimp only at hj
        rw [e2'] at hj
        dsimp only at hj
        rw [e3'] at hj
        cases hj
        have up1 : 2000 < (ns ++ m1).length → ∀ H', K3 ln dn kd H3 H' → ShO C H' x dx tn ln dn names ((ns ++ m1).take 2000) → E (.ref xc.many) none H' := fun g H' k s => by
          refine qx (by simp only [List.length_append] at g ⊢; omega) H' (K3.trans (Same.k3 k03) k) ?_
          rw [List.append_assoc _ m2, List.take_append_of_le_length (by omega)]
          exact s
        have up2 : 2000 < (ns ++ m1 ++ m2).length → ∀ H', K3 ln dn kd H3 H' → ShO C H' x dx tn ln dn names ((ns ++ m1 ++ m2).take 2000) → E (.ref xc.many) none H' := fun g H' k s => by
          refine qx (by simp only [List.length_append] at g ⊢; omega) H' (K3.trans (Same.k3 k03) k) ?_
          rw [List.take_append_of_le_length (by omega)]
          exact s
        refine ⟨_, rfl, x, C, dx, _, rfl, s03.ob, rfl, lkSn (by decide +kernel), _, rfl, t2, _, 0, _, rfl, rfl, SqT.of ht2, rfl, _, rfl, t3, _, 0, _, rfl, rfl, SqT.of ht3, rfl, _, rfl, _, rfl, x, dx, tn, ln, dn, kd, names, ns, ns ++ m1, kn, kn1, kvs, A.1, D.1, stop, l, rfl, hs, s03, wf, hkn, hkd3, kv, nkd, a1, d1, by omega, e1', fun hle1 H4 kvs4 k4 s4 hkd4 kv4 => ?_, up1⟩
        refine ⟨_, rfl, x, C, dx, _, rfl, s4.ob, rfl, lkSn (by decide +kernel), _, rfl, _, rfl, _, rfl, x, C, dx, _, rfl, s4.ob, rfl, lkSn (by decide +kernel), _, rfl, t2, _, 1, _, rfl, rfl, SqT.of (k4.tup s03 hkd3 ht2), rfl, _, rfl, t3, _, 1, _, rfl, rfl, SqT.of (k4.tup s03 hkd3 ht3), rfl, _, rfl, _, rfl,
          x, dx, tn, ln, dn, kd, names, ns ++ m1, ns ++ m1 ++ m2, kn1, kn2, kvs4, A.2, D.2, stop, h, rfl, hs, s4, w1, k1, hkd4, kv4, nkd, A2, D2, by rw [Sh.pl_app a2, Sh.pl_app d2]; omega, e2', fun hle2 H5 kvs5 k5 s5 hkd5 kv5 => ?_, fun g H' k s => up2 g H' (K3.trans k4 k) s⟩
        have k35 := K3.trans k4 k5
        have m3l : m3.length ≤ 1 := by
          rcases r4 with ⟨rfl, _⟩ | ⟨z, _⟩
          · simp
          · omega
        refine ⟨x, dx, tn, ln, dn, names, ns ++ m1 ++ m2, p, l, h, rfl, s5, fun hle3 H6 k6 s6 => ?_, fun g H' sm => ?_⟩
        · rw [e3'] at hle3 s6 ⊢
          have hkd6 := k6 _ _ hkd5 (s5.n_ln hkd5 fun _ e => by cases e) nkd nkd
          have k36 : K3 ln dn kd H3 H6 := K3.trans k35 (K3.more k6)
          refine ⟨_, rfl, _, rfl, _, rfl, line_ge (by simp), fun p7 n7 => ?_⟩
          have s7 : Same H6 (upd H6 p7 (.tup [.int a, .int c])) := Same.new n7
          have hp7 : upd H6 p7 (.tup [.int a, .int c]) p7 = some (.tup [.int a, .int c]) := upd_same
          show ∃ _ _, _ ∧ DPut (upd H6 p7 (.tup [.int a, .int c])) _ _ _ _ ∧ _
          generalize upd H6 p7 (.tup [.int a, .int c]) = H7 at s7 hp7 ⊢
          have s67 := s6.keep s7
          have hkd7 := s7 _ _ hkd6
          have kvl := kv5.len
          have ka : a < 2002 := by omega
          have kc : c < 2002 := by omega
          refine ⟨kd, _, rfl, DPut.t (k := [.inl (a : Int), .inl (c : Int)]) hkd7 hp7 (by rw [sizeLine_eq]; omega), _, _, _, _, rfl, ?_, ?_, _, upd_same, kv5.put ka kc, if_pos ⟨rfl, rfl⟩⟩
          · exact K3.trans (Same.k3 k03) (K3.trans k36 (K3.trans (Same.k3 s7) K3.uc))
          · exact s67.far K3.ua hkd7 (fun _ _ _ e => by cases e) (fun _ e => by cases e) (fun _ _ e => by cases e) (s67.n_ln hkd7 fun _ e => by cases e) nkd
        · rw [e3'] at g
          have hle := s5.le
          simp only [List.length_append] at g hle
          refine qx (by simp only [List.length_append]; omega) H' (K3.trans (Same.k3 k03) (K3.trans k35 (Same.k3 sm))) ?_
          rw [List.take_append_of_le_length (by simp only [List.length_append]; omega), List.take_of_length_le (by simp only [List.length_append]; omega)]
          exact s5.keep sm
    · rintro σ' H' ⟨v5, v6, v7, v8, kvs', rfl, k3, s3, hkd3, kv3, hr3⟩
      walk_at "rd"
      refine ⟨_, rfl, _, rfl, _, rfl, line_ge (by simp), fun p1 n1 => ?_⟩
      have s4 : Same H' (upd H' p1 (.tup [.int a, .int c])) := Same.new n1
      have hp1 : upd H' p1 (.tup [.int a, .int c]) p1 = some (.tup [.int a, .int c]) := upd_same
      have g := DGet.t (k := [.inl (a : Int), .inl (c : Int)]) (s4 _ _ hkd3) hp1
      rw [kv3.get, hr3] at g
      exact ⟨kd, _, rfl, g, q s3.le _ kvs' (K3.trans k3 (Same.k3 s4)) (s3.keep s4) (s4 _ _ hkd3) kv3⟩
end

--%% M7
/-! ## sheets: the opposite -/
abbrev s_Sheet_opposite : Stmt := inClass (top 32) 6
theorem sc_Sheet_opposite : FnScope ["self", "node", "known", "place", "low", "high"] ["self", "node", "known"] (defScope s_Sheet_opposite) := ⟨rfl, rfl, rfl, by decide +kernel, rfl, by decide +kernel, by decide +kernel⟩
structure TOpp (K : PySem.W.Frag) (mg : Str → Option Value) (xc : Xc) (cs : Addr) : Prop where
  sh : TSheet K mg xc cs
  m_opposite : MethAt K cs "opposite" "Sheet.opposite" s_Sheet_opposite ["self", "node", "known"]
/-- a dict of nodes: what is known -/
structure Kn1V (kvs : List (Key × V)) (kn : Sh.Kn1) : Prop where
  get : ∀ a : Nat, valV kvs (.inl (a : Int)) = (kn a).map fun r : Nat => V.int r
  nd : (kvs.map (·.1)).Nodup
  sm : ∀ k ∈ kvs.map (·.1), ∃ a : Nat, k = .inl (a : Int) ∧ a < 2002
theorem Kn1V.nil : Kn1V [] fun _ => none := ⟨fun _ => rfl, List.nodup_nil, fun _ h => by cases h⟩
theorem Kn1V.len {kvs : List (Key × V)} {kn : Sh.Kn1} (h : Kn1V kvs kn) : kvs.length ≤ 2002 := by
  have key : ∀ l : List Key, l.Nodup → (∀ k ∈ l, ∃ a : Nat, k = .inl (a : Int) ∧ a < 2002) → ∃ m : List Nat, m.length = l.length ∧ m.Nodup ∧ (∀ x ∈ m, x < 2002) ∧ ∀ x ∈ m, (.inl (x : Int) : Key) ∈ l := by
    intro l
    induction l with
    | nil => intro _ _; exact ⟨[], rfl, List.nodup_nil, (fun _ h => nomatch h), (fun _ h => nomatch h)⟩
    | cons k l ih =>
      intro nd hs
      obtain ⟨n1, n2⟩ := List.nodup_cons.mp nd
      obtain ⟨m, e1, e2, e3, e4⟩ := ih n2 fun k hk => hs k (List.mem_cons_of_mem _ hk)
      obtain ⟨a, rfl, ha⟩ := hs k List.mem_cons_self
      refine ⟨a :: m, by simp [e1], List.nodup_cons.mpr ⟨fun hm => n1 (e4 _ hm), e2⟩, fun x hx => ?_, fun x hx => ?_⟩
      · rcases List.mem_cons.mp hx with rfl | hx
        · exact ha
        · exact e3 x hx
      · rcases List.mem_cons.mp hx with rfl | hx
        · exact List.mem_cons_self
        · exact List.mem_cons_of_mem _ (e4 x hx)
  obtain ⟨m, e1, e2, e3, _⟩ := key _ h.nd h.sm
  rw [List.length_map] at e1
  rw [← e1]
  exact nodup_lt _ m e2 e3
theorem Kn1V.put {kvs : List (Key × V)} {kn : Sh.Kn1} (h : Kn1V kvs kn) {a r : Nat} (ha : a < 2002) : Kn1V (putK kvs (.inl (a : Int)) (.int r)) (Sh.kput1 kn a r) := by
  have keys : ∀ k, k ∈ (putK kvs (.inl (a : Int)) (V.int r)).map (·.1) → k ∈ kvs.map (·.1) ∨ k = .inl (a : Int) := fun k hk => by
    unfold putK at hk
    split at hk
    · rw [List.map_map] at hk
      obtain ⟨p, hp, rfl⟩ := List.mem_map.mp hk
      left
      refine List.mem_map.mpr ⟨p, hp, ?_⟩
      simp only [Function.comp]
      split <;> rfl
    · rw [List.map_append, List.mem_append] at hk
      rcases hk with hk | hk
      · exact .inl hk
      · exact .inr (List.mem_singleton.mp hk)
  refine ⟨fun x => ?_, ?_, fun k hk => ?_⟩
  · rw [valV_put]
    unfold Sh.kput1
    by_cases e : x = a
    · subst e
      rw [if_pos rfl, if_pos rfl]
      rfl
    · rw [if_neg e, if_neg, h.get]
      intro q
      simp only [Sum.inl.injEq] at q
      omega
  · unfold putK
    split
    · rw [List.map_map]
      have : (((fun kv : Key × V => kv.1) ∘ fun kv : Key × V => if kv.1 = .inl (a : Int) then (kv.1, V.int r) else kv) = fun kv => kv.1) := by
        funext kv
        simp only [Function.comp]
        split <;> rfl
      rw [this]
      exact h.nd
    · rename_i hn
      rw [List.map_append, List.nodup_append]
      refine ⟨h.nd, by simp, fun x hx y hy e => hn ?_⟩
      obtain ⟨p, hp, rfl⟩ := List.mem_map.mp hx
      rw [List.any_eq_true]
      exact ⟨p, hp, decide_eq_true (e.trans (List.mem_singleton.mp hy))⟩
  · rcases keys k hk with hk | rfl
    · exact h.sm k hk
    · exact ⟨a, rfl, ha⟩
theorem K3.tupK {C x dx tn ln dn : Addr} {H H' : Hp} {names : List Str} {ns : List Sh.Nd} {c : Addr} {kvs : List (Key × V)} (k : K3 ln dn c H H') (s : ShO C H x dx tn ln dn names ns) (hc : H c = some (.dK kvs)) {q : Addr} {zs : List V} (e : H q = some (.tup zs)) : H' q = some (.tup zs) :=
  k q _ e (s.n_ln e fun _ e => by cases e) (s.n_dn e fun _ e => by cases e) (fun z => by rw [z, hc] at e; cases e)
section
variable {P : Program} {w : World} {K : PySem.W.Frag} {mg : Str → Option Value} {base : Heap} {xc : Xc} {cs : Addr}
theorem disp_sjoin (T : TSheet K mg xc cs) : ∀ f : Nat, DispAt P w K mg base (L2.CX P w) (fun C => C = cs) "joined" (f + 3) ["self", "one", "other", "stop", "known"] (fun _ => spSJoin cs xc f)
  | 0 => by
    refine ⟨fun C hC => ?_⟩
    subst hC
    refine methAt_okX T.c_Sheet.cl T.m_joined sc_Sheet_joined (fun vs H Q E h => ?_) (fun fa cdv A outer st H vs Q E hr h => ?_)
    · obtain ⟨x, dx, tn, ln, dn, kd, names, ns, ns', kn, kn', kvs, a, c, stop, r, rfl, _⟩ := h; rfl
    · obtain ⟨x, dx, tn, ln, dn, kd, names, ns, ns', kn, kn', kvs, a, c, stop, r, rfl, hs, s, wf, hkn, hkd, kv, nkd, ha, hc, hf, hj, q, qx⟩ := h
      exact nomatch hj
  | f + 1 => ok_sjoin T (disp_sjoin T f) (by omega)
def spOpp (cs : Addr) (xc : Xc) (f : Nat) : Sp := fun vs H Q E => ∃ (x dx tn ln dn kd : Addr) (names : List Str) (ns ns' : List Sh.Nd) (kn kn' : Sh.Kn1) (kvs : List (Key × V)) (a r : Nat), vs = [.ref x, .int a, .ref kd] ∧
  ShO cs H x dx tn ln dn names ns ∧ Sh.Wf names.length ns ∧ Sh.Kn1Ok names.length ns kn ∧ H kd = some (.dK kvs) ∧ Kn1V kvs kn ∧ a < ns.length + 2 ∧ names.length < f + Sh.pl names.length ns a ∧
  Sh.opp f ns kn a = some (r, ns', kn') ∧
  (ns'.length ≤ 2000 → ∀ H' kvs', K3 ln dn kd H H' → ShO cs H' x dx tn ln dn names ns' → H' kd = some (.dK kvs') → Kn1V kvs' kn' → Q (.int r) H') ∧
  (2000 < ns'.length → ∀ H', K3 ln dn kd H H' → ShO cs H' x dx tn ln dn names (ns'.take 2000) → E (.ref xc.many) none H')
theorem ok_opp (T : TOpp K mg xc cs) {f k : Nat} (GX_opposite : DispAt P w K mg base (L2.CX P w) (fun C => C = cs) "opposite" k ["self", "node", "known"] (fun _ => spOpp cs xc f)) (hk : 3 ≤ k) :
    DispAt P w K mg base (L2.CX P w) (fun C => C = cs) "opposite" (k + 1) ["self", "node", "known"] (fun _ => spOpp cs xc (f + 1)) := by
  have GX_made : DispAt P w K mg base (L2.CX P w) (fun C => C = cs) "made" 1 ["self", "place", "low", "high"] (fun _ => spMade cs xc) := disp_made T.sh
  have T := T
  refine ⟨fun C hC => ?_⟩
  subst hC
  refine methAt_okX T.sh.c_Sheet.cl T.m_opposite sc_Sheet_opposite (fun vs H Q E h => ?_) (fun fa cdv A outer st H vs Q E hr h => ?_)
  · obtain ⟨x, dx, tn, ln, dn, kd, names, ns, ns', kn, kn', kvs, a, r, rfl, _⟩ := h; rfl
  · obtain ⟨x, dx, tn, ln, dn, kd, names, ns, ns', kn, kn', kvs, a, r, rfl, s, wf, hkn, hkd, kv, ha, hf, hj, q, qx⟩ := h
    have hu := hu_of hr
    refine ⟨_, (pss_cons (ps_if (pt_cmpR op_lt (pv 1) pe_int (nomark _)) (pss_one (ps_ret (pe_op op_sub pe_int (pv 1)))) pss_nil)
        (C8.pss_cut (ps_if (pt_cmp (pc_dnotin hu (pv 1) (pv 2))) (pss_cons (ps_asg (pe_ix ix_list (pe_fld (pv 0) rfl) (pe_op op_sub (pv 1) pe_int) (fun _ _ => rfl)) (pg_tup rfl (pgs_cons (pg_name (i := 3) sc_Sheet_opposite.nd rfl (by first | exact Or.inl rfl | exact Or.inr rfl)) (pgs_cons (pg_name (i := 4) sc_Sheet_opposite.nd rfl (by first | exact Or.inl rfl | exact Or.inr rfl)) (pgs_cons (pg_name (i := 5) sc_Sheet_opposite.nd rfl (by first | exact Or.inl rfl | exact Or.inr rfl)) pgs_nil)))))
          (pss_one (ps_dput hu (pv 2) (pv 1) (pe_methD GX_made hr (passX (L2.takes_of rfl rfl rfl rfl)) (pv 0) (pa_cons (pv 3) (pa_cons (pe_methD GX_opposite hr (passX (L2.takes_of rfl rfl rfl rfl)) (pv 0) (pa_cons (pv 4) (pa_cons (pv 2) pa_nil)) (Nat.le_refl _)) (pa_cons (pe_methD GX_opposite hr (passX (L2.takes_of rfl rfl rfl rfl)) (pv 0) (pa_cons (pv 5) (pa_cons (pv 2) pa_nil)) (Nat.le_refl _)) pa_nil))) (by omega)) rfl))) pss_nil)
        (pss_one (ps_ret (pe_dget (by exact hu) (pv 2) (pv 1) (fun _ _ => rfl)))))), ?_⟩
    walk_at "rd"
    unfold Sh.opp at hj
    by_cases e1 : a < 2
    · rw [if_pos e1] at hj
      cases hj
      rw [decide_eq_true (show (a : Int) < 2 by omega)]
      refine iteT ?_
      have e : (1 : Int) - (a : Int) = ((1 - a : Nat) : Int) := by omega
      rw [e]
      exact q s.le H kvs (K3.refl H) s hkd kv
    rw [decide_eq_false (show ¬ (a : Int) < 2 by omega)]
    refine iteF ?_
    rw [if_neg e1] at hj
    have hle := s.le
    refine ⟨fun σ' H' => ∃ (v5 v6 v7 : Option V) (kvs' : List (Key × V)), σ' = [some (.ref x), some (.int a), some (.ref kd), v5, v6, v7] ∧ K3 ln dn kd H H' ∧ ShO C H' x dx tn ln dn names ns' ∧ H' kd = some (.dK kvs') ∧ Kn1V kvs' kn' ∧ kn' a = some r, ?_, ?_⟩
    · walk_at "rd"
      refine ⟨_, rfl, _, rfl, kd, _, rfl, DGet.k (k := .inl (a : Int)) hkd, ?_⟩
      rw [kv.get]
      cases hk2 : kn a with
      | some r' =>
        rw [hk2] at hj
        cases hj
        exact ⟨false, rfl, iteF ⟨_, _, _, ⟨rfl, rfl, rfl⟩, K3.refl H, s, kvs, hkd, kv, hk2⟩⟩
      | none =>
        rw [hk2] at hj
        refine ⟨true, rfl, iteT ?_⟩
        have ha2 : 2 ≤ a := by omega
        obtain ⟨p, lo, hi, e⟩ := Sh.at_some ha2 ha
        obtain ⟨hpn, hlh, hlo, hhi, plo, phi⟩ := wf.kids ha2 e
        have ep := Sh.pl_at (n := names.length) ha2 e
        rw [ep] at hf
        obtain ⟨vs, t, h1, h3, h4, h5⟩ := s.at ha2 e
        dsimp only at hj
        rw [e] at hj
        obtain ⟨l, m1, kn1, e1', w1, k1, l1, l2, l3, l4, l5⟩ := Sh.Wf.opp (n := names.length) f ns kn lo wf hkn (by omega) (by omega)
        have H2' : hi < (ns ++ m1).length + 2 := by rw [List.length_append]; omega
        obtain ⟨h, m2, kn2, e2', w2, k2, g1, g2, g3, g4, g5⟩ := Sh.Wf.opp (n := names.length) f (ns ++ m1) kn1 hi w1 k1 H2' (by rw [Sh.pl_app (by omega)]; omega)
        rw [Sh.pl_app (by omega)] at g3
        have L2' : l < (ns ++ m1 ++ m2).length + 2 := by rw [List.length_append]; omega
        have pL : Sh.pl names.length (ns ++ m1 ++ m2) l = Sh.pl names.length (ns ++ m1) l := Sh.pl_app l1
        obtain ⟨r3, m3, e3', w3, r1, r2, r3', r4, r5⟩ := w2.made (p := p) (l := l) (h := h) hpn L2' g1 (by omega) (by omega)
        dsimp only at hj
        rw [e1'] at hj
        dsimp only at hj
        rw [e2'] at hj
        dsimp only at hj
        rw [e3'] at hj
        cases hj
        have up1 : 2000 < (ns ++ m1).length → ∀ H', K3 ln dn kd H H' → ShO C H' x dx tn ln dn names ((ns ++ m1).take 2000) → E (.ref xc.many) none H' := fun g H' k s => by
          refine qx (by simp only [List.length_append] at g ⊢; omega) H' k ?_
          rw [List.append_assoc _ m2, List.take_append_of_le_length (by omega)]
          exact s
        have up2 : 2000 < (ns ++ m1 ++ m2).length → ∀ H', K3 ln dn kd H H' → ShO C H' x dx tn ln dn names ((ns ++ m1 ++ m2).take 2000) → E (.ref xc.many) none H' := fun g H' k s => by
          refine qx (by simp only [List.length_append] at g ⊢; omega) H' k ?_
          rw [List.take_append_of_le_length (by omega)]
          exact s
        refine ⟨_, rfl, x, _, dx, _, _, rfl, s.ob, T.sh.c_Sheet.cl, T.sh.n_nodes, lkS2, ln, vs, _, .ref t, rfl, rfl, SqL.of h1, h3, t, [.int p, .int lo, .int hi], rfl, SqT.of h4, rfl, ?_⟩
        walk_at "rd"
        refine ⟨_, rfl, x, C, dx, _, rfl, s.ob, rfl, lkSn (by decide +kernel), _, rfl, _, rfl, x, C, dx, _, rfl, s.ob, rfl, lkSn (by decide +kernel), _, rfl, _, rfl,
          x, dx, tn, ln, dn, kd, names, ns, ns ++ m1, kn, kn1, kvs, lo, l, rfl, s, wf, hkn, hkd, kv, by omega, by omega, e1', fun hle1 H4 kvs4 k4 s4 hkd4 kv4 => ?_, up1⟩
        refine ⟨_, rfl, x, C, dx, _, rfl, s4.ob, rfl, lkSn (by decide +kernel), _, rfl, _, rfl,
          x, dx, tn, ln, dn, kd, names, ns ++ m1, ns ++ m1 ++ m2, kn1, kn2, kvs4, hi, h, rfl, s4, w1, k1, hkd4, kv4, H2', by rw [Sh.pl_app (by omega)]; omega, e2', fun hle2 H5 kvs5 k5 s5 hkd5 kv5 => ?_, fun g H' k s => up2 g H' (K3.trans k4 k) s⟩
        have k05 := K3.trans k4 k5
        have m3l : m3.length ≤ 1 := by
          rcases r4 with ⟨rfl, _⟩ | ⟨z, _⟩
          · simp
          · omega
        refine ⟨x, dx, tn, ln, dn, names, ns ++ m1 ++ m2, p, l, h, rfl, s5, fun hle3 H6 k6 s6 => ?_, fun g H' sm => ?_⟩
        · rw [e3'] at hle3 s6 ⊢
          have nkd : kd ≠ dn := s5.n_dn hkd5 fun _ e => by cases e
          have hkd6 := k6 _ _ hkd5 (s5.n_ln hkd5 fun _ e => by cases e) nkd nkd
          have k06 : K3 ln dn kd H H6 := K3.trans k05 (K3.more k6)
          have kvl := kv5.len
          have ka : a < 2002 := by omega
          refine ⟨_, rfl, _, rfl, kd, _, rfl, DPut.k (k := .inl (a : Int)) hkd6 (by rw [sizeLine_eq]; omega), _, _, _, rfl, ?_, ?_, _, upd_same, kv5.put ka, if_pos rfl⟩
          · exact K3.trans k06 K3.uc
          · exact s6.far K3.ua hkd6 (fun _ _ _ e => by cases e) (fun _ e => by cases e) (fun _ _ e => by cases e) (s6.n_ln hkd6 fun _ e => by cases e) nkd
        · rw [e3'] at g
          have hle := s5.le
          simp only [List.length_append] at g hle
          refine qx (by simp only [List.length_append]; omega) H' (K3.trans k05 (Same.k3 sm)) ?_
          rw [List.take_append_of_le_length (by simp only [List.length_append]; omega), List.take_of_length_le (by simp only [List.length_append]; omega)]
          exact s5.keep sm
    · rintro σ' H' ⟨v5, v6, v7, kvs', rfl, k3, s3, hkd3, kv3, hr3⟩
      have g := DGet.k (k := .inl (a : Int)) hkd3
      rw [kv3.get, hr3] at g
      exact ⟨_, rfl, _, rfl, kd, _, rfl, g, q s3.le _ kvs' k3 s3 hkd3 kv3⟩
theorem disp_opp (T : TOpp K mg xc cs) : ∀ f : Nat, DispAt P w K mg base (L2.CX P w) (fun C => C = cs) "opposite" (f + 3) ["self", "node", "known"] (fun _ => spOpp cs xc f)
  | 0 => by
    refine ⟨fun C hC => ?_⟩
    subst hC
    refine methAt_okX T.sh.c_Sheet.cl T.m_opposite sc_Sheet_opposite (fun vs H Q E h => ?_) (fun fa cdv A outer st H vs Q E hr h => ?_)
    · obtain ⟨x, dx, tn, ln, dn, kd, names, ns, ns', kn, kn', kvs, a, r, rfl, _⟩ := h; rfl
    · obtain ⟨x, dx, tn, ln, dn, kd, names, ns, ns', kn, kn', kvs, a, r, rfl, s, wf, hkn, hkd, kv, ha, hf, hj, q, qx⟩ := h
      exact nomatch hj
  | f + 1 => ok_opp T (disp_opp T f) (by omega)
end

--%% M8
/-! ## sheets: what is drawn of a condition -/
def ixOf : List Str → Str → Nat
  | [], _ => 0
  | x :: r, n => if x = n then 0 else ixOf r n + 1
theorem ixOf_at : ∀ {l : List Str} {n : Str}, n ∈ l → l[ixOf l n]? = some n ∧ ∀ m, m < ixOf l n → l[m]? ≠ some n
  | x :: r, n, h => by
    unfold ixOf
    by_cases e : x = n
    · rw [if_pos e]
      exact ⟨by simp [e], fun m hm => by omega⟩
    · rw [if_neg e]
      have h' : n ∈ r := by
        rcases List.mem_cons.mp h with q | q
        · exact absurd q.symm e
        · exact q
      obtain ⟨h1, h2⟩ := ixOf_at h'
      refine ⟨by simpa using h1, fun m hm => ?_⟩
      cases m with
      | zero => simpa using e
      | succ m => simpa using h2 m (by omega)
theorem ixOf_lt {l : List Str} {n : Str} (h : n ∈ l) : ixOf l n < l.length := (List.getElem?_eq_some_iff.mp (ixOf_at h).1).1
mutual
/-- all its contacts are of these names -/
def Cond.within (l : List Str) : Cond → Bool
  | .fixed _ => true
  | .contact n => decide (n ∈ l)
  | .not c => c.within l
  | .grp _ cs => Cond.withins l cs
def Cond.withins (l : List Str) : List Cond → Bool
  | [] => true
  | c :: cs => c.within l && Cond.withins l cs
end
theorem Cond.withins_mem {l : List Str} : ∀ {cs : List Cond} {c : Cond}, Cond.withins l cs = true → c ∈ cs → c.within l = true
  | x :: cs, c, h, m => by
    rw [Cond.withins, Bool.and_eq_true] at h
    rcases List.mem_cons.mp m with rfl | m
    · exact h.1
    · exact Cond.withins_mem h.2 m
def stopOf (s : Bool) : Nat := if s then 0 else 1
theorem stopOf_lt (s : Bool) : stopOf s < 2 := by cases s <;> decide
mutual
def draw (l : List Str) : Cond → List Sh.Nd → Option (Nat × List Sh.Nd)
  | .fixed b, ns => some (if b then 1 else 0, ns)
  | .contact n, ns => some ((Sh.made ns (ixOf l n) 0 1).1, (Sh.made ns (ixOf l n) 0 1).2)
  | .not c, ns => match draw l c ns with
    | none => none
    | some (k, ns1) => match Sh.opp 61 ns1 (fun _ => none) k with
      | none => none
      | some (r, ns2, _) => some (r, ns2)
  | .grp s cs, ns => draws l (stopOf s) cs ns (1 - stopOf s)
def draws (l : List Str) (stop : Nat) : List Cond → List Sh.Nd → Nat → Option (Nat × List Sh.Nd)
  | [], ns, found => some (found, ns)
  | c :: cs, ns, found => match draw l c ns with
    | none => none
    | some (k, ns1) => match Sh.join l.length stop 61 ns1 (fun _ _ => none) found k with
      | none => none
      | some (r, ns2, _) => draws l stop cs ns2 r
end
/-- the image of a row -/
def imB (l : List Str) (b : Nat → Bool) : Im := fun n => b (ixOf l n)
/-- the fold of the parts -/
def foldB (stop : Nat) (f : Im) (cs : List Cond) (x : Bool) : Bool := cs.foldl (fun y c => Sh.op2 stop y (c.holds f)) x
theorem holds_grp (s : Bool) (cs : List Cond) (f : Im) : (Cond.grp s cs).holds f = foldB (stopOf s) f cs s := by
  have h1 : ∀ (cs : List Cond) (x : Bool), foldB 0 f cs x = (x && Cond.alls f cs) := by
    intro cs
    induction cs with
    | nil => intro x; simp [foldB, Cond.alls]
    | cons c cs ih =>
      intro x
      have := ih (Sh.op2 0 x (c.holds f))
      unfold foldB at this ⊢
      rw [List.foldl_cons, this, Cond.alls]
      simp [Sh.op2, Bool.and_assoc]
  have h2 : ∀ (cs : List Cond) (x : Bool), foldB 1 f cs x = (x || Cond.anys f cs) := by
    intro cs
    induction cs with
    | nil => intro x; simp [foldB, Cond.anys]
    | cons c cs ih =>
      intro x
      have := ih (Sh.op2 1 x (c.holds f))
      unfold foldB at this ⊢
      rw [List.foldl_cons, this, Cond.anys]
      simp [Sh.op2, Bool.or_assoc]
  cases s
  · rw [Cond.holds]
    exact ((h2 cs false).trans (Bool.false_or _)).symm
  · rw [Cond.holds]
    exact ((h1 cs true).trans (Bool.true_and _)).symm
mutual
/-- each group has a part -/
def Cond.cond2 : Cond → Bool
  | .fixed _ => true
  | .contact _ => true
  | .not c => c.cond2
  | .grp _ cs => decide (1 ≤ cs.length) && Cond.cond2s cs
def Cond.cond2s : List Cond → Bool
  | [] => true
  | c :: cs => c.cond2 && Cond.cond2s cs
end
mutual
/-- how many nodes at most: each joining and each opposite makes B -/
def Cond.cost (B : Nat) : Cond → Nat
  | .fixed _ => 0
  | .contact _ => 1
  | .not c => c.cost B + B
  | .grp _ cs => Cond.costs B cs + (cs.length - 1) * B
def Cond.costs (B : Nat) : List Cond → Nat
  | [] => 0
  | c :: cs => c.cost B + Cond.costs B cs
end
mutual
def Cond.wgt : Cond → Nat
  | .fixed _ => 1
  | .contact _ => 1
  | .not c => c.wgt + 1
  | .grp _ cs => Cond.wgts cs
def Cond.wgts : List Cond → Nat
  | [] => 0
  | c :: cs => c.wgt + Cond.wgts cs
end
mutual
theorem Cond.cost_wgt (B : Nat) : ∀ c : Cond, c.cond2 = true → c.cost B + B ≤ c.wgt * (B + 1)
  | .fixed _, _ => by simp [Cond.cost, Cond.wgt]
  | .contact _, _ => by simp [Cond.cost, Cond.wgt]; omega
  | .not c, h => by
    rw [Cond.cond2] at h
    have := Cond.cost_wgt B c h
    rw [Cond.cost, Cond.wgt, Nat.add_mul]
    omega
  | .grp _ cs, h => by
    rw [Cond.cond2, Bool.and_eq_true, decide_eq_true_eq] at h
    have := Cond.costs_wgt B cs h.2
    rw [Cond.cost, Cond.wgt]
    have e : (cs.length - 1) * B + B = cs.length * B := by
      have : cs.length = (cs.length - 1) + 1 := by omega
      rw [this, Nat.add_mul]
      simp
    omega
theorem Cond.costs_wgt (B : Nat) : ∀ cs : List Cond, Cond.cond2s cs = true → Cond.costs B cs + cs.length * B ≤ Cond.wgts cs * (B + 1)
  | [], _ => by simp [Cond.costs, Cond.wgts]
  | c :: cs, h => by
    rw [Cond.cond2s, Bool.and_eq_true] at h
    have h1 := Cond.cost_wgt B c h.1
    have h2 := Cond.costs_wgt B cs h.2
    rw [Cond.costs, Cond.wgts, List.length_cons, Nat.add_mul, Nat.add_mul]
    omega
end
/-- the law of drawing: what comes, and that it comes again where all is there -/
def DrawOk (l : List Str) (f : List Sh.Nd → Option (Nat × List Sh.Nd)) (g : (Nat → Bool) → Bool) (k : Nat) (ns : List Sh.Nd) : Prop :=
  ∃ r m, f ns = some (r, ns ++ m) ∧ Sh.Wf l.length (ns ++ m) ∧ r < (ns ++ m).length + 2 ∧ (∀ b, Sh.ev (ns ++ m) r b = g b) ∧ m.length ≤ k ∧
    ∀ m', Sh.Wf l.length (ns ++ m ++ m') → f (ns ++ m ++ m') = some (r, ns ++ m ++ m')
theorem draw_contact {l : List Str} {n : Str} {ns : List Sh.Nd} (w : Sh.Wf l.length ns) (h : n ∈ l) : DrawOk l (draw l (.contact n)) (fun b => (Cond.contact n).holds (imB l b)) 1 ns := by
  have hi := ixOf_lt h
  have hp : ∀ {ns : List Sh.Nd}, Sh.Wf l.length ns → ixOf l n < Sh.pl l.length ns 0 ∧ ixOf l n < Sh.pl l.length ns 1 := fun w => ⟨by rw [Sh.pl_low (by omega)]; exact hi, by rw [Sh.pl_low (by omega)]; exact hi⟩
  have step : ∀ {ns : List Sh.Nd}, Sh.Wf l.length ns → ∃ r m, Sh.made ns (ixOf l n) 0 1 = (r, ns ++ m) ∧ Sh.Wf l.length (ns ++ m) ∧ r < (ns ++ m).length + 2 ∧ (∀ b, Sh.ev (ns ++ m) r b = b (ixOf l n)) ∧ m.length ≤ 1 ∧ (m = [] ∨ r = (ns ++ m).length + 1) := fun {ns} w => by
    obtain ⟨r, m, e1, w1, h1, h2, h3, h4, _⟩ := w.made (p := ixOf l n) (l := 0) (h := 1) hi (by omega) (by omega) (hp w).1 (hp w).2
    refine ⟨r, m, e1, w1, h1, fun b => ?_, ?_, ?_⟩
    · rw [h2]
      cases b (ixOf l n)
      · exact Sh.ev_low (by decide)
      · exact Sh.ev_low (by decide)
    · rcases h4 with ⟨rfl, _⟩ | ⟨z, _⟩
      · simp
      · omega
    · rcases h4 with ⟨rfl, _⟩ | ⟨z, z2, _⟩
      · exact .inl rfl
      · right; rw [List.length_append, z, z2]
  obtain ⟨r, m, e1, w1, h1, h2, h3, h4⟩ := step w
  refine ⟨r, m, by rw [draw, e1], w1, h1, fun b => by rw [h2]; rfl, ?_, fun m' w2 => ?_⟩
  · exact h3
  · obtain ⟨r', m3, e5, w5, h5, h6, h7, h8⟩ := step w2
    obtain ⟨rfl, rfl⟩ := Sh.last_old (r0 := r) w2 w5 h8 h5 (by rw [List.length_append]; omega) fun b => by rw [h6, w1.ev_app w2 _ h1, h2]
    rw [draw, e5, List.append_nil]
mutual
theorem draw_ok {l : List Str} (hl : l.length ≤ 60) : ∀ (c : Cond) (ns : List Sh.Nd), Sh.Wf l.length ns → c.within l = true → DrawOk l (draw l c) (fun b => c.holds (imB l b)) (c.cost (2 ^ l.length - 1)) ns
  | .fixed b, ns, w, _ => by
    refine ⟨if b then 1 else 0, [], by rw [draw, List.append_nil], by rw [List.append_nil]; exact w, by rw [List.append_nil]; split <;> omega, fun x => ?_, by simp, fun m' w' => by rw [draw]⟩
    cases b
    · exact Sh.ev_low (by decide)
    · exact Sh.ev_low (by decide)
  | .contact n, ns, w, h => draw_contact w (of_decide_eq_true h)
  | .not c, ns, w, h => by
    obtain ⟨k, m1, e1, w1, h1, h2, h3, h4⟩ := draw_ok hl c ns w h
    obtain ⟨r, m2, kn, e2, w2, _, g1, g2, g3, g4, g5⟩ := Sh.Wf.opp (n := l.length) 61 (ns ++ m1) (fun _ => none) k w1 Sh.Kn1Ok.nil h1 (by omega)
    refine ⟨r, m1 ++ m2, ?_, by rw [← List.append_assoc]; exact w2, by rw [← List.append_assoc]; exact g1, fun b => ?_, ?_, fun m' w' => ?_⟩
    · rw [draw, e1]
      dsimp only
      rw [e2]
      rw [List.append_assoc]
    · rw [← List.append_assoc, g2, h2]; rfl
    · rw [List.length_append, Cond.cost]
      have : 2 ^ (l.length - Sh.pl l.length (ns ++ m1) k) ≤ 2 ^ l.length := Nat.pow_le_pow_right (by omega) (by omega)
      omega
    · have e4 := h4 (m2 ++ m') (by simpa only [List.append_assoc] using w')
      have eN : ns ++ m1 ++ (m2 ++ m') = ns ++ (m1 ++ m2) ++ m' := by simp only [List.append_assoc]
      rw [eN] at e4
      have wN := w'
      have hk : k < (ns ++ (m1 ++ m2) ++ m').length + 2 := by simp only [List.length_append] at h1 ⊢; omega
      obtain ⟨r', m3, kn', e5, w5, _, f1, f2, f3, f4, f5⟩ := Sh.Wf.opp (n := l.length) 61 (ns ++ (m1 ++ m2) ++ m') (fun _ => none) k wN Sh.Kn1Ok.nil hk (by omega)
      have w2' : Sh.Wf l.length (ns ++ (m1 ++ m2)) := by rw [← List.append_assoc]; exact w2
      have g1' : r < (ns ++ (m1 ++ m2)).length + 2 := by rw [← List.append_assoc]; exact g1
      obtain ⟨rfl, rfl⟩ := Sh.last_old (r0 := r) wN w5 f4 f1 (by rw [List.length_append]; omega) fun b => by
        have q1 : Sh.ev (ns ++ (m1 ++ m2) ++ m') k b = Sh.ev (ns ++ m1) k b := by
          rw [← eN]
          exact w1.ev_app (by rw [eN]; exact wN) k h1
        rw [f2, q1, w2'.ev_app wN r g1', ← List.append_assoc, g2]
      rw [draw, e4]
      dsimp only
      rw [e5, List.append_nil]
  | .grp s cs, ns, w, h => by
    have w0 : 1 - stopOf s < ns.length + 2 := by have := stopOf_lt s; omega
    obtain ⟨r, m, e1, w1, h1, h2, h3, h4⟩ := draws_ok hl (stopOf s) (stopOf_lt s) cs ns (1 - stopOf s) w w0 h
    refine ⟨r, m, by rw [draw]; exact e1, w1, h1, fun b => ?_, ?_, fun m' w' => by rw [draw]; exact h4 m' w'⟩
    · show _ = (Cond.grp s cs).holds (imB l b)
      rw [h2, holds_grp]
      show foldB _ _ _ (Sh.ev ns (1 - stopOf s) b) = _
      congr 1
      rw [Sh.ev_low (by have := stopOf_lt s; omega)]
      cases s <;> rfl
    · rw [Cond.cost]
      rw [if_pos rfl] at h3
      exact h3
theorem draws_ok {l : List Str} (hl : l.length ≤ 60) (stop : Nat) (hs : stop < 2) : ∀ (cs : List Cond) (ns : List Sh.Nd) (found : Nat), Sh.Wf l.length ns → found < ns.length + 2 → Cond.withins l cs = true →
    DrawOk l (fun ns => draws l stop cs ns found) (fun b => foldB stop (imB l b) cs (Sh.ev ns found b)) (Cond.costs (2 ^ l.length - 1) cs + (if found = 1 - stop then cs.length - 1 else cs.length) * (2 ^ l.length - 1)) ns
  | [], ns, found, w, hf, _ => ⟨found, [], by show draws l stop [] ns found = _; rw [draws, List.append_nil], by rw [List.append_nil]; exact w, by rw [List.append_nil]; exact hf, fun b => by rw [List.append_nil]; rfl, by simp, fun m' w' => by show draws l stop [] _ found = _; rw [draws]⟩
  | c :: cs, ns, found, w, hf, h => by
    rw [Cond.withins, Bool.and_eq_true] at h
    obtain ⟨k, m1, e1, w1, h1, h2, h3, h4⟩ := draw_ok hl c ns w h.1
    have hf1 : found < (ns ++ m1).length + 2 := by rw [List.length_append]; omega
    obtain ⟨r, m2, kn, e2, w2, _, g1, g2, g3, g4, g5⟩ := Sh.Wf.join (n := l.length) hs 61 (ns ++ m1) (fun _ _ => none) found k w1 Sh.KnOk.nil hf1 h1 (by omega)
    obtain ⟨r3, m3, e3, w3, f1, f2, f3, f4⟩ := draws_ok hl stop hs cs (ns ++ m1 ++ m2) r w2 g1 h.2
    have eA : ns ++ m1 ++ m2 ++ m3 = ns ++ (m1 ++ (m2 ++ m3)) := by simp only [List.append_assoc]
    refine ⟨r3, m1 ++ (m2 ++ m3), ?_, by rw [← eA]; exact w3, by rw [← eA]; exact f1, fun b => ?_, ?_, fun m' w' => ?_⟩
    · show draws l stop (c :: cs) ns found = _
      rw [draws, e1]
      dsimp only
      rw [e2]
      dsimp only
      rw [← eA]
      exact e3
    · rw [← eA, f2]
      show foldB stop (imB l b) cs (Sh.ev (ns ++ m1 ++ m2) r b) = foldB stop (imB l b) (c :: cs) (Sh.ev ns found b)
      unfold foldB
      rw [List.foldl_cons, g2, w.ev_app w1 found hf, h2]
    · have b1 : 2 ^ (l.length - min (Sh.pl l.length (ns ++ m1) found) (Sh.pl l.length (ns ++ m1) k)) ≤ 2 ^ l.length := Nat.pow_le_pow_right (by omega) (by omega)
      rw [Cond.costs]
      simp only [List.length_append, List.length_cons]
      have f3' : m3.length ≤ Cond.costs (2 ^ l.length - 1) cs + cs.length * (2 ^ l.length - 1) := Nat.le_trans f3 (Nat.add_le_add_left (Nat.mul_le_mul_right _ (by split <;> omega)) _)
      by_cases hq : found = 1 - stop
      · rw [if_pos hq, Nat.add_sub_cancel]
        have hm : m2 = [] := by
          unfold Sh.join at e2
          split at e2
          · have := congrArg (fun o : Option (Nat × List Sh.Nd × Sh.Kn) => (o.map fun t => t.2.1.length)) e2
            simp only [Option.map_some, Option.some.injEq, List.length_append] at this
            exact List.eq_nil_of_length_eq_zero (by omega)
          · rw [if_pos (.inl hq)] at e2
            have := congrArg (fun o : Option (Nat × List Sh.Nd × Sh.Kn) => (o.map fun t => t.2.1.length)) e2
            simp only [Option.map_some, Option.some.injEq, List.length_append] at this
            exact List.eq_nil_of_length_eq_zero (by omega)
        subst hm
        simp only [List.length_nil]
        omega
      · rw [if_neg hq, Nat.add_mul, Nat.one_mul]
        omega
    · show draws l stop (c :: cs) _ found = _
      have eN : ns ++ (m1 ++ (m2 ++ m3)) ++ m' = ns ++ m1 ++ (m2 ++ m3 ++ m') := by simp only [List.append_assoc]
      have eM : ns ++ (m1 ++ (m2 ++ m3)) ++ m' = ns ++ m1 ++ m2 ++ (m3 ++ m') := by simp only [List.append_assoc]
      have eP : ns ++ (m1 ++ (m2 ++ m3)) ++ m' = ns ++ m1 ++ m2 ++ m3 ++ m' := by simp only [List.append_assoc]
      have e4 := h4 (m2 ++ m3 ++ m') (by rw [← eN]; exact w')
      have e6 := f4 m' (by rw [← eP]; exact w')
      rw [← eN] at e4
      rw [← eP] at e6
      have hk : k < (ns ++ (m1 ++ (m2 ++ m3)) ++ m').length + 2 := by simp only [List.length_append] at h1 ⊢; omega
      have hf' : found < (ns ++ (m1 ++ (m2 ++ m3)) ++ m').length + 2 := by simp only [List.length_append] at hf ⊢; omega
      obtain ⟨r', m4, kn', e5, w5, _, q1, q2, q3, q4, q5⟩ := Sh.Wf.join (n := l.length) hs 61 (ns ++ (m1 ++ (m2 ++ m3)) ++ m') (fun _ _ => none) found k w' Sh.KnOk.nil hf' hk (by omega)
      obtain ⟨rfl, rfl⟩ := Sh.last_old (r0 := r) w' w5 q4 q1 (by simp only [List.length_append] at g1 ⊢; omega) fun b => by
        have z1 : Sh.ev (ns ++ (m1 ++ (m2 ++ m3)) ++ m') found b = Sh.ev (ns ++ m1) found b := by
          rw [eN]
          exact w1.ev_app (by rw [← eN]; exact w') _ hf1
        have z2 : Sh.ev (ns ++ (m1 ++ (m2 ++ m3)) ++ m') k b = Sh.ev (ns ++ m1) k b := by
          rw [eN]
          exact w1.ev_app (by rw [← eN]; exact w') _ h1
        have z3 : Sh.ev (ns ++ (m1 ++ (m2 ++ m3)) ++ m') r b = Sh.ev (ns ++ m1 ++ m2) r b := by
          rw [eM]
          exact w2.ev_app (by rw [← eM]; exact w') _ g1
        rw [q2, z1, z2, z3, g2]
      rw [draws, e4]
      dsimp only
      rw [e5, List.append_nil]
      exact e6
end

--%% M9
/-! ## isinstance of parts -/
structure TPaK (K : PySem.W.Frag) (mg : Str → Option Value) (cl : Cl) : Prop where
  parts : TParts K mg cl
  o_fx_fx : PySem.W.kitOne K (.ref cl.fx) (.ref cl.fx) = some true
  o_fx_ct : PySem.W.kitOne K (.ref cl.fx) (.ref cl.ct) = some false
  o_fx_tn : PySem.W.kitOne K (.ref cl.fx) (.ref cl.tn) = some false
  o_fx_sr : PySem.W.kitOne K (.ref cl.fx) (.ref cl.sr) = some false
  o_ct_fx : PySem.W.kitOne K (.ref cl.ct) (.ref cl.fx) = some false
  o_ct_ct : PySem.W.kitOne K (.ref cl.ct) (.ref cl.ct) = some true
  o_ct_tn : PySem.W.kitOne K (.ref cl.ct) (.ref cl.tn) = some false
  o_ct_sr : PySem.W.kitOne K (.ref cl.ct) (.ref cl.sr) = some false
  o_tn_fx : PySem.W.kitOne K (.ref cl.tn) (.ref cl.fx) = some false
  o_tn_ct : PySem.W.kitOne K (.ref cl.tn) (.ref cl.ct) = some false
  o_tn_tn : PySem.W.kitOne K (.ref cl.tn) (.ref cl.tn) = some true
  o_tn_sr : PySem.W.kitOne K (.ref cl.tn) (.ref cl.sr) = some false
  o_sr_fx : PySem.W.kitOne K (.ref cl.sr) (.ref cl.fx) = some false
  o_sr_ct : PySem.W.kitOne K (.ref cl.sr) (.ref cl.ct) = some false
  o_sr_tn : PySem.W.kitOne K (.ref cl.sr) (.ref cl.tn) = some false
  o_sr_sr : PySem.W.kitOne K (.ref cl.sr) (.ref cl.sr) = some true
  o_br_fx : PySem.W.kitOne K (.ref cl.br) (.ref cl.fx) = some false
  o_br_ct : PySem.W.kitOne K (.ref cl.br) (.ref cl.ct) = some false
  o_br_tn : PySem.W.kitOne K (.ref cl.br) (.ref cl.tn) = some false
  o_br_sr : PySem.W.kitOne K (.ref cl.br) (.ref cl.sr) = some false
section
variable {K : PySem.W.Frag} {mg : Str → Option Value} {cl : Cl}
theorem TPaK.ne (T : TPaK K mg cl) : cl.fx ≠ cl.ct ∧ cl.fx ≠ cl.tn ∧ cl.fx ≠ cl.sr ∧ cl.fx ≠ cl.br ∧ cl.ct ≠ cl.tn ∧ cl.ct ≠ cl.sr ∧ cl.ct ≠ cl.br ∧ cl.tn ≠ cl.sr ∧ cl.tn ≠ cl.br ∧ cl.sr ≠ cl.br := by
  have nd := T.parts.nd
  simp only [List.nodup_cons, List.mem_cons, List.not_mem_nil, or_false, not_or] at nd
  exact ⟨nd.1.1, nd.1.2.1, nd.1.2.2.1, nd.1.2.2.2, nd.2.1.1, nd.2.1.2.1, nd.2.1.2.2, nd.2.2.1.1, nd.2.2.1.2, nd.2.2.2.1⟩
theorem TPaK.is_Fixed (T : TPaK K mg cl) : Ru.IsT K cl.fx (fun C b => cl.has C ∧ b = decide (C = cl.fx)) := by
  obtain ⟨n1, n2, n3, n4, n5, n6, n7, n8, n9, n10⟩ := T.ne
  rintro C b ⟨h, rfl⟩
  rcases h with rfl | rfl | rfl | rfl | rfl
  · rw [decide_eq_true rfl]
    exact ⟨⟨_, _, T.parts.c_Fixed⟩, T.o_fx_fx⟩
  · rw [decide_eq_false (by first | exact n1 | exact n2 | exact n3 | exact n4 | exact n5 | exact n6 | exact n7 | exact n8 | exact n9 | exact n10 | exact n1.symm | exact n2.symm | exact n3.symm | exact n4.symm | exact n5.symm | exact n6.symm | exact n7.symm | exact n8.symm | exact n9.symm | exact n10.symm)]
    exact ⟨⟨_, _, T.parts.c_Contact⟩, T.o_ct_fx⟩
  · rw [decide_eq_false (by first | exact n1 | exact n2 | exact n3 | exact n4 | exact n5 | exact n6 | exact n7 | exact n8 | exact n9 | exact n10 | exact n1.symm | exact n2.symm | exact n3.symm | exact n4.symm | exact n5.symm | exact n6.symm | exact n7.symm | exact n8.symm | exact n9.symm | exact n10.symm)]
    exact ⟨⟨_, _, T.parts.c_Turned⟩, T.o_tn_fx⟩
  · rw [decide_eq_false (by first | exact n1 | exact n2 | exact n3 | exact n4 | exact n5 | exact n6 | exact n7 | exact n8 | exact n9 | exact n10 | exact n1.symm | exact n2.symm | exact n3.symm | exact n4.symm | exact n5.symm | exact n6.symm | exact n7.symm | exact n8.symm | exact n9.symm | exact n10.symm)]
    exact ⟨⟨_, _, T.parts.c_Series⟩, T.o_sr_fx⟩
  · rw [decide_eq_false (by first | exact n1 | exact n2 | exact n3 | exact n4 | exact n5 | exact n6 | exact n7 | exact n8 | exact n9 | exact n10 | exact n1.symm | exact n2.symm | exact n3.symm | exact n4.symm | exact n5.symm | exact n6.symm | exact n7.symm | exact n8.symm | exact n9.symm | exact n10.symm)]
    exact ⟨⟨_, _, T.parts.c_Branch⟩, T.o_br_fx⟩
theorem TPaK.is_Contact (T : TPaK K mg cl) : Ru.IsT K cl.ct (fun C b => cl.has C ∧ b = decide (C = cl.ct)) := by
  obtain ⟨n1, n2, n3, n4, n5, n6, n7, n8, n9, n10⟩ := T.ne
  rintro C b ⟨h, rfl⟩
  rcases h with rfl | rfl | rfl | rfl | rfl
  · rw [decide_eq_false (by first | exact n1 | exact n2 | exact n3 | exact n4 | exact n5 | exact n6 | exact n7 | exact n8 | exact n9 | exact n10 | exact n1.symm | exact n2.symm | exact n3.symm | exact n4.symm | exact n5.symm | exact n6.symm | exact n7.symm | exact n8.symm | exact n9.symm | exact n10.symm)]
    exact ⟨⟨_, _, T.parts.c_Fixed⟩, T.o_fx_ct⟩
  · rw [decide_eq_true rfl]
    exact ⟨⟨_, _, T.parts.c_Contact⟩, T.o_ct_ct⟩
  · rw [decide_eq_false (by first | exact n1 | exact n2 | exact n3 | exact n4 | exact n5 | exact n6 | exact n7 | exact n8 | exact n9 | exact n10 | exact n1.symm | exact n2.symm | exact n3.symm | exact n4.symm | exact n5.symm | exact n6.symm | exact n7.symm | exact n8.symm | exact n9.symm | exact n10.symm)]
    exact ⟨⟨_, _, T.parts.c_Turned⟩, T.o_tn_ct⟩
  · rw [decide_eq_false (by first | exact n1 | exact n2 | exact n3 | exact n4 | exact n5 | exact n6 | exact n7 | exact n8 | exact n9 | exact n10 | exact n1.symm | exact n2.symm | exact n3.symm | exact n4.symm | exact n5.symm | exact n6.symm | exact n7.symm | exact n8.symm | exact n9.symm | exact n10.symm)]
    exact ⟨⟨_, _, T.parts.c_Series⟩, T.o_sr_ct⟩
  · rw [decide_eq_false (by first | exact n1 | exact n2 | exact n3 | exact n4 | exact n5 | exact n6 | exact n7 | exact n8 | exact n9 | exact n10 | exact n1.symm | exact n2.symm | exact n3.symm | exact n4.symm | exact n5.symm | exact n6.symm | exact n7.symm | exact n8.symm | exact n9.symm | exact n10.symm)]
    exact ⟨⟨_, _, T.parts.c_Branch⟩, T.o_br_ct⟩
theorem TPaK.is_Turned (T : TPaK K mg cl) : Ru.IsT K cl.tn (fun C b => cl.has C ∧ b = decide (C = cl.tn)) := by
  obtain ⟨n1, n2, n3, n4, n5, n6, n7, n8, n9, n10⟩ := T.ne
  rintro C b ⟨h, rfl⟩
  rcases h with rfl | rfl | rfl | rfl | rfl
  · rw [decide_eq_false (by first | exact n1 | exact n2 | exact n3 | exact n4 | exact n5 | exact n6 | exact n7 | exact n8 | exact n9 | exact n10 | exact n1.symm | exact n2.symm | exact n3.symm | exact n4.symm | exact n5.symm | exact n6.symm | exact n7.symm | exact n8.symm | exact n9.symm | exact n10.symm)]
    exact ⟨⟨_, _, T.parts.c_Fixed⟩, T.o_fx_tn⟩
  · rw [decide_eq_false (by first | exact n1 | exact n2 | exact n3 | exact n4 | exact n5 | exact n6 | exact n7 | exact n8 | exact n9 | exact n10 | exact n1.symm | exact n2.symm | exact n3.symm | exact n4.symm | exact n5.symm | exact n6.symm | exact n7.symm | exact n8.symm | exact n9.symm | exact n10.symm)]
    exact ⟨⟨_, _, T.parts.c_Contact⟩, T.o_ct_tn⟩
  · rw [decide_eq_true rfl]
    exact ⟨⟨_, _, T.parts.c_Turned⟩, T.o_tn_tn⟩
  · rw [decide_eq_false (by first | exact n1 | exact n2 | exact n3 | exact n4 | exact n5 | exact n6 | exact n7 | exact n8 | exact n9 | exact n10 | exact n1.symm | exact n2.symm | exact n3.symm | exact n4.symm | exact n5.symm | exact n6.symm | exact n7.symm | exact n8.symm | exact n9.symm | exact n10.symm)]
    exact ⟨⟨_, _, T.parts.c_Series⟩, T.o_sr_tn⟩
  · rw [decide_eq_false (by first | exact n1 | exact n2 | exact n3 | exact n4 | exact n5 | exact n6 | exact n7 | exact n8 | exact n9 | exact n10 | exact n1.symm | exact n2.symm | exact n3.symm | exact n4.symm | exact n5.symm | exact n6.symm | exact n7.symm | exact n8.symm | exact n9.symm | exact n10.symm)]
    exact ⟨⟨_, _, T.parts.c_Branch⟩, T.o_br_tn⟩
theorem TPaK.is_Series (T : TPaK K mg cl) : Ru.IsT K cl.sr (fun C b => cl.has C ∧ b = decide (C = cl.sr)) := by
  obtain ⟨n1, n2, n3, n4, n5, n6, n7, n8, n9, n10⟩ := T.ne
  rintro C b ⟨h, rfl⟩
  rcases h with rfl | rfl | rfl | rfl | rfl
  · rw [decide_eq_false (by first | exact n1 | exact n2 | exact n3 | exact n4 | exact n5 | exact n6 | exact n7 | exact n8 | exact n9 | exact n10 | exact n1.symm | exact n2.symm | exact n3.symm | exact n4.symm | exact n5.symm | exact n6.symm | exact n7.symm | exact n8.symm | exact n9.symm | exact n10.symm)]
    exact ⟨⟨_, _, T.parts.c_Fixed⟩, T.o_fx_sr⟩
  · rw [decide_eq_false (by first | exact n1 | exact n2 | exact n3 | exact n4 | exact n5 | exact n6 | exact n7 | exact n8 | exact n9 | exact n10 | exact n1.symm | exact n2.symm | exact n3.symm | exact n4.symm | exact n5.symm | exact n6.symm | exact n7.symm | exact n8.symm | exact n9.symm | exact n10.symm)]
    exact ⟨⟨_, _, T.parts.c_Contact⟩, T.o_ct_sr⟩
  · rw [decide_eq_false (by first | exact n1 | exact n2 | exact n3 | exact n4 | exact n5 | exact n6 | exact n7 | exact n8 | exact n9 | exact n10 | exact n1.symm | exact n2.symm | exact n3.symm | exact n4.symm | exact n5.symm | exact n6.symm | exact n7.symm | exact n8.symm | exact n9.symm | exact n10.symm)]
    exact ⟨⟨_, _, T.parts.c_Turned⟩, T.o_tn_sr⟩
  · rw [decide_eq_true rfl]
    exact ⟨⟨_, _, T.parts.c_Series⟩, T.o_sr_sr⟩
  · rw [decide_eq_false (by first | exact n1 | exact n2 | exact n3 | exact n4 | exact n5 | exact n6 | exact n7 | exact n8 | exact n9 | exact n10 | exact n1.symm | exact n2.symm | exact n3.symm | exact n4.symm | exact n5.symm | exact n6.symm | exact n7.symm | exact n8.symm | exact n9.symm | exact n10.symm)]
    exact ⟨⟨_, _, T.parts.c_Branch⟩, T.o_br_sr⟩
end

/-! ## sheets: drawn -/
abbrev s_Sheet_drawn : Stmt := inClass (top 32) 7
theorem sc_Sheet_drawn : FnScope ["self", "part", "stop", "found", "inner"] ["self", "part"] (defScope s_Sheet_drawn) := ⟨rfl, rfl, rfl, by decide +kernel, rfl, by decide +kernel, by decide +kernel⟩
structure TDrawn (K : PySem.W.Frag) (mg : Str → Option Value) (cl : Cl) (xc : Xc) (cs : Addr) : Prop where
  opp : TOpp K mg xc cs
  pk : TPaK K mg cl
  m_drawn : MethAt K cs "drawn" "Sheet.drawn" s_Sheet_drawn ["self", "part"]
  z_isinstance : mg "isinstance" = none
  z_int : mg "int" = none
theorem made_over {ns : List Sh.Nd} {p l h : Nat} (g : 2000 < (Sh.made ns p l h).2.length) (hle : ns.length ≤ 2000) : (Sh.made ns p l h).2.take 2000 = ns := by
  unfold Sh.made at g ⊢
  split
  · rename_i e; rw [if_pos e] at g; exact absurd g (by show ¬ 2000 < ns.length; omega)
  · rename_i e
    rw [if_neg e] at g
    split
    · rename_i e2
      rw [e2] at g
      exact absurd g (by show ¬ 2000 < ns.length; omega)
    · rename_i e2
      rw [e2] at g
      have g' : 2000 < (ns ++ [(p, l, h)]).length := g
      rw [List.length_append, List.length_singleton] at g'
      show (ns ++ [(p, l, h)]).take 2000 = ns
      rw [List.take_append_of_le_length (by omega), List.take_of_length_le (by omega)]
theorem Cond.withins_of {l : List Str} : ∀ {cs : List Cond}, (∀ c ∈ cs, c.within l = true) → Cond.withins l cs = true
  | [], _ => rfl
  | c :: cs, h => by
    rw [Cond.withins, h c List.mem_cons_self, Cond.withins_of fun c hc => h c (List.mem_cons_of_mem _ hc)]
    rfl
section
variable {P : Program} {w : World} {K : PySem.W.Frag} {mg : Str → Option Value} {base : Heap} {cl : Cl} {xc : Xc} {cs : Addr}
theorem TDrawn.is_Fixed (T : TDrawn K mg cl xc cs) : Ru.IsT K cl.fx (fun C b => cl.has C ∧ b = decide (C = cl.fx)) := T.pk.is_Fixed
theorem TDrawn.is_Contact (T : TDrawn K mg cl xc cs) : Ru.IsT K cl.ct (fun C b => cl.has C ∧ b = decide (C = cl.ct)) := T.pk.is_Contact
theorem TDrawn.is_Turned (T : TDrawn K mg cl xc cs) : Ru.IsT K cl.tn (fun C b => cl.has C ∧ b = decide (C = cl.tn)) := T.pk.is_Turned
theorem TDrawn.is_Series (T : TDrawn K mg cl xc cs) : Ru.IsT K cl.sr (fun C b => cl.has C ∧ b = decide (C = cl.sr)) := T.pk.is_Series
theorem TDrawn.c_Fixed (T : TDrawn K mg cl xc cs) : ClsAt K mg "Fixed" cl.fx := T.pk.parts.c_Fixed
theorem TDrawn.c_Contact (T : TDrawn K mg cl xc cs) : ClsAt K mg "Contact" cl.ct := T.pk.parts.c_Contact
theorem TDrawn.c_Turned (T : TDrawn K mg cl xc cs) : ClsAt K mg "Turned" cl.tn := T.pk.parts.c_Turned
theorem TDrawn.c_Series (T : TDrawn K mg cl xc cs) : ClsAt K mg "Series" cl.sr := T.pk.parts.c_Series
theorem ShO.imm {C x dx tn ln dn : Addr} {H H' : Hp} {names : List Str} {ns : List Sh.Nd} {S : Addr → Prop} (s : ShO C H x dx tn ln dn names ns) (k : K3 ln dn dn H H') : Imm S H H' := by
  obtain ⟨vs, h1, _⟩ := s.hl
  exact k.imm (fun o e i => by rw [h1] at e; cases e; exact i) (fun o e i => by rw [s.hd] at e; cases e; exact i) (fun o e i => by rw [s.hd] at e; cases e; exact i)
def spSDrawn (cl : Cl) (cs : Addr) (xc : Xc) (n : Nat) : Sp := fun vs H Q E => ∃ (x dx tn ln dn : Addr) (names : List Str) (ns ns' : List Sh.Nd) (v : V) (c : Cond) (r : Nat), vs = [.ref x, v] ∧
  ShO cs H x dx tn ln dn names ns ∧ Sh.Wf names.length ns ∧ names.length ≤ 60 ∧ IsP cl H v c ∧ c.depth ≤ n ∧ c.within names = true ∧ draw names c ns = some (r, ns') ∧
  (ns'.length ≤ 2000 → ∀ H', K3 ln dn dn H H' → ShO cs H' x dx tn ln dn names ns' → Q (.int r) H') ∧
  (2000 < ns'.length → ∀ H', K3 ln dn dn H H' → ShO cs H' x dx tn ln dn names (ns'.take 2000) → E (.ref xc.many) none H')
theorem ok_sdrawn (T : TDrawn K mg cl xc cs) {n k : Nat} (GX_drawn : DispAt P w K mg base (L2.CX P w) (fun C => C = cs) "drawn" k ["self", "part"] (fun _ => spSDrawn cl cs xc n)) (hk : 64 ≤ k) :
    DispAt P w K mg base (L2.CX P w) (fun C => C = cs) "drawn" (k + 1) ["self", "part"] (fun _ => spSDrawn cl cs xc (n + 1)) := by
  have GX_made : DispAt P w K mg base (L2.CX P w) (fun C => C = cs) "made" 1 ["self", "place", "low", "high"] (fun _ => spMade cs xc) := disp_made T.opp.sh
  have GX_joined : DispAt P w K mg base (L2.CX P w) (fun C => C = cs) "joined" (61 + 3) ["self", "one", "other", "stop", "known"] (fun _ => spSJoin cs xc 61) := disp_sjoin T.opp.sh 61
  have GX_opposite : DispAt P w K mg base (L2.CX P w) (fun C => C = cs) "opposite" (61 + 3) ["self", "node", "known"] (fun _ => spOpp cs xc 61) := disp_opp T.opp 61
  obtain ⟨n1, n2, n3, n4, n5, n6, n7, n8, n9, n10⟩ := T.pk.ne
  refine ⟨fun C hC => ?_⟩
  subst hC
  refine methAt_okX T.opp.sh.c_Sheet.cl T.m_drawn sc_Sheet_drawn (fun vs H Q E h => ?_) (fun fa cdv A outer st H vs Q E hr h => ?_)
  · obtain ⟨x, dx, tn, ln, dn, names, ns, ns', v, c, r, rfl, _⟩ := h; rfl
  · obtain ⟨x, dx, tn, ln, dn, names, ns, ns', v, c, r, rfl, s, wf, hl, p, hdp, hw, hj, q, qx⟩ := h
    have hu := hu_of hr
    refine ⟨_, (pss_cons (ps_if (pt_val (pe_callB (call_isO T.is_Fixed) (by rfl) T.z_isinstance (by decide +kernel) (pa_cons (pv 1) (pa_cons (pe_cls T.c_Fixed) pa_nil)))) (pss_one (ps_ret (pe_callTy call_int1 (by rfl) T.z_int (show PySem.bootBuiltins "int" = some (.type "int") by decide +kernel) (pa_cons (pe_fld (pv 1) rfl) pa_nil)))) pss_nil)
        (pss_cons (ps_if (pt_val (pe_callB (call_isO T.is_Contact) (by rfl) T.z_isinstance (by decide +kernel) (pa_cons (pv 1) (pa_cons (pe_cls T.c_Contact) pa_nil)))) (pss_one (ps_ret (pe_methD GX_made hr (passX (L2.takes_of rfl rfl rfl rfl)) (pv 0) (pa_cons (pe_tupIndex (pe_fld (pv 0) rfl) (pa_cons (pe_fld (pv 1) rfl) pa_nil)) (pa_cons pe_int (pa_cons pe_int pa_nil))) (by omega)))) pss_nil)
        (pss_cons (ps_if (pt_val (pe_callB (call_isO T.is_Turned) (by rfl) T.z_isinstance (by decide +kernel) (pa_cons (pv 1) (pa_cons (pe_cls T.c_Turned) pa_nil)))) (pss_one (ps_ret (pe_methD GX_opposite hr (passX (L2.takes_of rfl rfl rfl rfl)) (pv 0) (pa_cons (pe_methD GX_drawn hr (passX (L2.takes_of rfl rfl rfl rfl)) (pv 0) (pa_cons (pe_fld (pv 1) rfl) pa_nil) (Nat.le_refl _)) (pa_cons pe_dnewK pa_nil)) (by omega)))) pss_nil)
        (pss_cons (ps_set (i := 2) sc_Sheet_drawn.nd rfl (by first | exact Or.inl rfl | exact Or.inr rfl) (pe_callTy call_int1 (by rfl) T.z_int (show PySem.bootBuiltins "int" = some (.type "int") by decide +kernel) (pa_cons (pe_not (pe_callB (call_isO T.is_Series) (by rfl) T.z_isinstance (by decide +kernel) (pa_cons (pv 1) (pa_cons (pe_cls T.c_Series) pa_nil)))) pa_nil)))
        (pss_cons (ps_set (i := 3) sc_Sheet_drawn.nd rfl (by first | exact Or.inl rfl | exact Or.inr rfl) (pe_op op_sub pe_int (pv 2)))
        (pss_cons (ps_for (L2.passes_of rfl) rfl (pi_tup (pe_fld (pv 1) rfl)) (pg_name (i := 4) sc_Sheet_drawn.nd rfl (by first | exact Or.inl rfl | exact Or.inr rfl)) (pss_one (ps_set (i := 3) sc_Sheet_drawn.nd rfl (by first | exact Or.inl rfl | exact Or.inr rfl) (pe_methD GX_joined hr (passX (L2.takes_of rfl rfl rfl rfl)) (pv 0) (pa_cons (pv 3) (pa_cons (pe_methD GX_drawn hr (passX (L2.takes_of rfl rfl rfl rfl)) (pv 0) (pa_cons (pv 4) pa_nil) (Nat.le_refl _)) (pa_cons (pv 2) (pa_cons pe_dnewT pa_nil)))) (by omega)))))
        (pss_one (ps_ret (pv 3))))))))), ?_⟩
    walk_at "rd"
    cases p with
    | @fixed a da b h =>
      rw [draw] at hj
      cases hj
      refine ⟨a, _, da, _, true, rfl, h, ⟨.inl rfl, (decide_eq_true rfl).symm⟩, _, rfl, iteT ⟨_, rfl, a, _, da, _, _, rfl, h, T.pk.parts.c_Fixed.cl, T.pk.parts.nv_fx, lk1s, .inr ⟨b, rfl, ?_⟩⟩⟩
      have z := q s.le H (K3.refl H) s
      cases b <;> exact z
    | @contact a da m h =>
      have hm : m ∈ names := of_decide_eq_true (by rw [Cond.within] at hw; exact hw)
      obtain ⟨i1, i2⟩ := ixOf_at hm
      rw [draw] at hj
      cases hj
      refine ⟨a, _, da, _, false, rfl, h, ⟨.inr (.inl rfl), (decide_eq_false n1.symm).symm⟩, _, rfl, iteF ⟨a, _, da, _, true, rfl, h, ⟨.inr (.inl rfl), (decide_eq_true rfl).symm⟩, _, rfl, iteT ?_⟩⟩
      refine ⟨_, rfl, x, C, dx, _, rfl, s.ob, rfl, lkSn (by decide +kernel), _, rfl, x, _, dx, _, _, rfl, s.ob, T.opp.sh.c_Sheet.cl, T.opp.sh.n_names, lkS1, tn, _, rfl, s.hn, _, rfl, a, _, da, _, _, rfl, h, T.pk.parts.c_Contact.cl, T.pk.parts.nn_ct, lk1s, names, m, ixOf names m, rfl, s.hn.sq, i1, i2, x, dx, tn, ln, dn, names, ns, ixOf names m, 0, 1, rfl, s, q, fun g H' sm => ?_⟩
      refine qx g H' (Same.k3 sm) ?_
      rw [made_over g s.le]
      exact s.keep sm
    | @not a da v' c' h p' =>
      rw [Cond.within] at hw
      rw [Cond.depth] at hdp
      obtain ⟨k1, m1, e1, w1, h1, _, _, _⟩ := draw_ok hl c' ns wf hw
      obtain ⟨r2, m2, kn, e2, w2, _, _⟩ := Sh.Wf.opp (n := names.length) 61 (ns ++ m1) (fun _ => none) k1 w1 Sh.Kn1Ok.nil h1 (by omega)
      rw [draw, e1] at hj
      dsimp only at hj
      rw [e2] at hj
      cases hj
      refine ⟨a, _, da, _, false, rfl, h, ⟨.inr (.inr (.inl rfl)), (decide_eq_false n2.symm).symm⟩, _, rfl, iteF ⟨a, _, da, _, false, rfl, h, ⟨.inr (.inr (.inl rfl)), (decide_eq_false n5.symm).symm⟩, _, rfl, iteF ⟨a, _, da, _, true, rfl, h, ⟨.inr (.inr (.inl rfl)), (decide_eq_true rfl).symm⟩, _, rfl, iteT ?_⟩⟩⟩
      refine ⟨_, rfl, x, C, dx, _, rfl, s.ob, rfl, lkSn (by decide +kernel), _, rfl, x, C, dx, _, rfl, s.ob, rfl, lkSn (by decide +kernel), _, rfl, a, _, da, _, _, rfl, h, T.pk.parts.c_Turned.cl, T.pk.parts.np_tn, lk1s,
        x, dx, tn, ln, dn, names, ns, ns ++ m1, v', c', k1, rfl, s, wf, hl, p', by omega, hw, e1, fun hle1 H1 kk1 s1 => fun kd nkd => ?_, fun g H' kk s2 => ?_⟩
      · refine ⟨x, dx, tn, ln, dn, kd, names, ns ++ m1, ns ++ m1 ++ m2, fun _ => none, kn, [], k1, r, rfl, s1.keep (Same.new nkd), w1, Sh.Kn1Ok.nil, upd_same, Kn1V.nil, h1, by omega, e2, fun hle2 H3 kvs3 kk3 s3 _ _ => ?_, fun g H3 kk3 s3 => ?_⟩
        · exact q hle2 H3 (K3.trans kk1 (K3.drop (Same.new nkd) kk3 nkd)) s3
        · exact qx g H3 (K3.trans kk1 (K3.drop (Same.new nkd) kk3 nkd)) s3
      · refine qx (by simp only [List.length_append] at g ⊢; omega) H' kk ?_
        rw [List.take_append_of_le_length (by omega)]
        exact s2
    | @grp a da t vs s' cs' h ht ps =>
      rw [Cond.within] at hw
      rw [Cond.depth] at hdp
      rw [draw] at hj
      obtain ⟨xg, cg⟩ := T.pk.parts.gr s'
      have hg := cl.has_gr s'
      have z1 : cl.gr s' ≠ cl.fx := by
        cases s'
        · exact n4.symm
        · exact n3.symm
      have z2 : cl.gr s' ≠ cl.ct := by
        cases s'
        · exact n7.symm
        · exact n6.symm
      have z3 : cl.gr s' ≠ cl.tn := by
        cases s'
        · exact n9.symm
        · exact n8.symm
      have z4 : s' = decide (cl.gr s' = cl.sr) := by
        cases s'
        · exact (decide_eq_false n10.symm).symm
        · exact (decide_eq_true rfl).symm
      have hs := stopOf_lt s'
      have e1 : (if (!s') = true then (1 : Int) else 0) = (stopOf s' : Nat) := by cases s' <;> rfl
      have e2 : (1 : Int) - (stopOf s' : Nat) = ((1 - stopOf s' : Nat) : Int) := by cases s' <;> rfl
      refine ⟨a, _, da, _, false, rfl, h, ⟨hg, (decide_eq_false z1).symm⟩, _, rfl, iteF ⟨a, _, da, _, false, rfl, h, ⟨hg, (decide_eq_false z2).symm⟩, _, rfl, iteF ⟨a, _, da, _, false, rfl, h, ⟨hg, (decide_eq_false z3).symm⟩, _, rfl, iteF ⟨a, _, da, _, s', rfl, h, ⟨hg, z4⟩, s', rfl, ?_⟩⟩⟩⟩
      rw [e1, e2]
      refine ⟨_, rfl, a, _, da, _, _, rfl, h, cg.cl, T.pk.parts.np s', lk1s, t, rfl, ⟨_, SqT.of ht⟩, for_tup (K := K) (a := t) (xs := vs) (fun i σ H' => ∃ (v4 : Option V) (nsI : List Sh.Nd) (fI : Nat), σ = [some (.ref x), some (.ref a), some (.int (stopOf s' : Nat)), some (.int (fI : Nat)), v4] ∧ K3 ln dn dn H H' ∧ ShO C H' x dx tn ln dn names nsI ∧ Sh.Wf names.length nsI ∧ fI < nsI.length + 2 ∧ draws names (stopOf s') (cs'.drop i) nsI fI = some (r, ns')) ⟨none, ns, _, rfl, K3.refl H, s, wf, by omega, hj⟩ (fun i σ H' _ ⟨_, _, _, _, kI, _⟩ => SqT.of ((s.imm (S := fun _ => False) kI) _ _ ht trivial)) ?_ ?_⟩
      · rintro i y σ H1 hy ⟨v4, nsI, fI, rfl, kI, sI, wI, hfI, hjI⟩
        obtain ⟨ci, hci, pi⟩ := ps.at hy
        obtain ⟨hil, hiv⟩ := List.getElem?_eq_some_iff.mp hci
        rw [List.drop_eq_getElem_cons hil, hiv] at hjI
        have hwi := Cond.withins_mem hw (List.mem_of_getElem? hci)
        have hdi := Cond.depth_mem (List.mem_of_getElem? hci)
        obtain ⟨k1, m1, e1', w1, h1, _, _, _⟩ := draw_ok hl ci nsI wI hwi
        have hf1 : fI < (nsI ++ m1).length + 2 := by rw [List.length_append]; omega
        obtain ⟨r2, m2, kn, e2', w2, _, g1, _⟩ := Sh.Wf.join (n := names.length) hs 61 (nsI ++ m1) (fun _ _ => none) fI k1 w1 Sh.KnOk.nil hf1 h1 (by omega)
        rw [draws, e1'] at hjI
        dsimp only at hjI
        rw [e2'] at hjI
        dsimp only at hjI
        have hwd : Cond.withins names (cs'.drop (i + 1)) = true := Cond.withins_of fun c hc => Cond.withins_mem hw (List.mem_of_mem_drop hc)
        obtain ⟨r3, m3, e3', _⟩ := draws_ok hl (stopOf s') hs (cs'.drop (i + 1)) (nsI ++ m1 ++ m2) r2 w2 g1 hwd
        have eq' : ns' = nsI ++ m1 ++ m2 ++ m3 := by
          have e3'' : draws names (stopOf s') (cs'.drop (i + 1)) (nsI ++ m1 ++ m2) r2 = some (r3, nsI ++ m1 ++ m2 ++ m3) := e3'
          rw [hjI] at e3''
          injection e3'' with e3''
          injection e3''
        walk_at "rd"
        refine ⟨_, rfl, x, C, dx, _, rfl, sI.ob, rfl, lkSn (by decide +kernel), _, rfl, _, rfl, x, C, dx, _, rfl, sI.ob, rfl, lkSn (by decide +kernel), _, rfl,
          x, dx, tn, ln, dn, names, nsI, nsI ++ m1, y, ci, k1, rfl, sI, wI, hl, pi.mono (s.imm kI), by omega, hwi, e1', fun hle1 H2 k2 s2 => ?_, fun g H2 k2 s2 => ?_⟩
        · refine ⟨_, rfl, fun kd nkd => ?_⟩
          refine ⟨x, dx, tn, ln, dn, kd, names, nsI ++ m1, nsI ++ m1 ++ m2, fun _ _ => none, kn, [], fI, k1, stopOf s', r2, rfl, hs, s2.keep (Same.new nkd), w1, Sh.KnOk.nil, upd_same, KnV.nil, (fun e => by rw [e, s2.hd] at nkd; cases nkd), hf1, h1, by omega, e2', fun hle2 H3 kvs3 k3 s3 _ _ => ?_, fun g H3 k3 s3 => ?_⟩
          · exact ⟨_, nsI ++ m1 ++ m2, r2, ⟨rfl, rfl⟩, K3.trans kI (K3.trans k2 (K3.drop (Same.new nkd) k3 nkd)), s3, w2, g1, hjI⟩
          · refine qx (by rw [eq']; simp only [List.length_append] at g ⊢; omega) H3 (K3.trans kI (K3.trans k2 (K3.drop (Same.new nkd) k3 nkd))) ?_
            rw [eq', List.take_append_of_le_length (by omega)]
            exact s3
        · refine qx (by rw [eq']; simp only [List.length_append] at g ⊢; omega) H2 (K3.trans kI k2) ?_
          rw [eq', List.append_assoc (nsI ++ m1), List.take_append_of_le_length (by omega)]
          exact s2
      · rintro σ H1 ⟨v4, nsI, fI, rfl, kI, sI, wI, hfI, hjI⟩
        have hvl := ps.length
        rw [List.drop_of_length_le (by omega), draws] at hjI
        cases hjI
        walk_at "rd"
        exact q sI.le H1 kI sI
theorem disp_sdrawn (T : TDrawn K mg cl xc cs) : ∀ n : Nat, DispAt P w K mg base (L2.CX P w) (fun C => C = cs) "drawn" (n + 64) ["self", "part"] (fun _ => spSDrawn cl cs xc n)
  | 0 => by
    refine ⟨fun C hC => ?_⟩
    subst hC
    refine methAt_okX T.opp.sh.c_Sheet.cl T.m_drawn sc_Sheet_drawn (fun vs H Q E h => ?_) (fun fa cdv A outer st H vs Q E hr h => ?_)
    · obtain ⟨x, dx, tn, ln, dn, names, ns, ns', v, c, r, rfl, _⟩ := h; rfl
    · obtain ⟨x, dx, tn, ln, dn, names, ns, ns', v, c, r, rfl, s, wf, hl, p, hdp, _⟩ := h
      exact absurd c.depth_pos (by omega)
  | n + 1 => by
    have h := ok_sdrawn T (disp_sdrawn T n) (by omega)
    have e : n + 1 + 64 = n + 64 + 1 := by omega
    rw [e]
    exact h
end

--%% MA
/-! ## sheets: made; need, shown, node -/
abbrev s_Sheet___init__ : Stmt := inClass (top 32) 0
theorem sc_Sheet___init__ : FnScope ["self", "names", "name"] ["self", "names"] (defScope s_Sheet___init__) := ⟨rfl, rfl, rfl, by decide +kernel, rfl, by decide +kernel, by decide +kernel⟩
abbrev s_Sheet_need : Stmt := inClass (top 32) 8
theorem sc_Sheet_need : FnScope ["self", "node"] ["self", "node"] (defScope s_Sheet_need) := ⟨rfl, rfl, rfl, by decide +kernel, rfl, by decide +kernel, by decide +kernel⟩
abbrev s_Sheet_node : Stmt := inClass (top 32) 9
theorem sc_Sheet_node : FnScope ["self", "part", "name", "many"] ["self", "part"] (defScope s_Sheet_node) := ⟨rfl, rfl, rfl, by decide +kernel, rfl, by decide +kernel, by decide +kernel⟩
structure TSh (K : PySem.W.Frag) (mg : Str → Option Value) (cl : Cl) (xc : Xc) (cs : Addr) : Prop where
  dr : TDrawn K mg cl xc cs
  names : TNames K mg
  gather : TGather K mg cl
  e_name : ExcAt K mg "NoName" xc.name xc.err
  e_sheet : ExcAt K mg "NoSheet" xc.sheet xc.err
  i_sheet : MethAt K cs "__init__" "Sheet.__init__" s_Sheet___init__ ["self", "names"]
  m_need : MethAt K cs "need" "Sheet.need" s_Sheet_need ["self", "node"]
  m_node : MethAt K cs "node" "Sheet.node" s_Sheet_node ["self", "part"]
  g_MOST_NAMES_sheets : GlobC mg "MOST_NAMES_sheets" (.int 60)
  z_len : mg "len" = none
  z_set : mg "set" = none
  z_tuple : mg "tuple" = none
  z_isinstance : mg "isinstance" = none
  z_int : mg "int" = none
  z_bool : mg "bool" = none
mutual
theorem Cond.within_gather {l : List Str} : ∀ {c : Cond} {f : List Str}, c.within l = true → (∀ n ∈ f, n ∈ l) → ∀ n ∈ c.gather f, n ∈ l
  | .fixed _, _, _, hf => hf
  | .contact m, f, h, hf => fun n hn => by
    rw [Cond.gather] at hn
    unfold addN at hn
    split at hn
    · exact hf n hn
    · rcases List.mem_append.mp hn with hn | hn
      · exact hf n hn
      · rw [List.mem_singleton.mp hn]
        rw [Cond.within] at h
        exact of_decide_eq_true h
  | .not c, f, h, hf => fun n hn => by
    rw [Cond.within] at h
    rw [Cond.gather] at hn
    exact Cond.within_gather h hf n hn
  | .grp _ cs, f, h, hf => fun n hn => by
    rw [Cond.within] at h
    rw [Cond.gather] at hn
    exact Cond.withins_gather h hf n hn
theorem Cond.withins_gather {l : List Str} : ∀ {cs : List Cond} {f : List Str}, Cond.withins l cs = true → (∀ n ∈ f, n ∈ l) → ∀ n ∈ Cond.gathers f cs, n ∈ l
  | [], _, _, hf => hf
  | c :: cs, f, h, hf => fun n hn => by
    rw [Cond.withins, Bool.and_eq_true] at h
    rw [Cond.gathers] at hn
    exact Cond.withins_gather h.2 (Cond.within_gather h.1 hf) n hn
end
theorem Cond.within_contacts {l : List Str} {c : Cond} (h : c.within l = true) : ∀ n ∈ c.contacts, n ∈ l := Cond.within_gather h fun _ hn => nomatch hn
theorem same_mkS {H : Hp} {x dx C : Addr} {fs : List (Str × V)} (nx : H x = none) (nd : H dx = none) : Same H (upd (upd H dx (.own x)) x (.ins C dx fs)) := fun b o e => by
  rw [upd_ne (ne_of_none e nx), upd_ne (ne_of_none e nd)]
  exact e
theorem all_flatN : ∀ l : List Str, (l.map V.str).all flatV = true
  | [] => rfl
  | _ :: l => all_flatN l
theorem tupN_or {K : PySem.W.Frag} {H : Hp} {l : Addr} {xs : List V} {P : V → Hp → Prop} (h : SqL K H l xs ∨ TupN H l xs) (k : ∀ tn H2, Same H H2 → TupN H2 tn xs → P (.ref tn) H2) :
    (SqL K H l xs ∧ ∀ p o, H p = none → o.dict = none → P (.ref p) (upd H p (.frz o (.tup xs)))) ∨ (SqT K H l xs ∧ P (.ref l) H) := by
  rcases h with h | h
  · exact .inl ⟨h, fun p o np od => k p _ (Same.new np) ⟨o, upd_same, od⟩⟩
  · exact .inr ⟨h.sq, k l H (Same.refl _) h⟩
section
variable {P : Program} {w : World} {K : PySem.W.Frag} {mg : Str → Option Value} {base : Heap} {cl : Cl} {xc : Xc} {cs : Addr}
def spInitSh (K : PySem.W.Frag) (cs : Addr) (xc : Xc) : Sp := fun vs H Q E => ∃ (H0 : Hp) (x dx l : Addr) (names : List Str), vs = [.ref x, .ref l] ∧ H x = some (.ins cs dx []) ∧ Same H0 H ∧ H0 x = none ∧ (SqL K H0 l (names.map V.str) ∨ TupN H0 l (names.map V.str)) ∧ names.length ≤ 1000 ∧ (∀ n ∈ names, n.length ≤ sizeLine) ∧
  ((∀ n ∈ names, isName n = true) → names.length ≤ 60 → names.Nodup → ∀ (H' : Hp) (tn ln dn : Addr), ShO cs H' x dx tn ln dn names [] → Same H0 H' → H0 ln = none → H0 dn = none → Q .non H') ∧
  (¬ (∀ n ∈ names, isName n = true) → ∀ H', Same H0 H' → E (.ref xc.name) none H') ∧
  ((∀ n ∈ names, isName n = true) → ¬ (names.length ≤ 60 ∧ names.Nodup) → ∀ H', Same H0 H' → E (.ref xc.sheet) none H')
theorem ok_init_sh (T : TSh K mg cl xc cs) : MakAt P w K mg base (L2.CX P w) "Sheet" cs 3 ["self", "names"] (spInitSh K cs xc) := by
  have G_is_name : FnAt P w K mg base CX0 "is_name" 2 _ spIsName := ok_is_name T.names
  have e_NoName := T.e_name
  have e_NoSheet := T.e_sheet
  refine makAt_of T.dr.opp.sh.c_Sheet (methAt_okX T.dr.opp.sh.c_Sheet.cl T.i_sheet sc_Sheet___init__ (fun vs H Q E h => ?_) (fun f cdv A outer st H vs Q E hr h => ?_))
  · obtain ⟨H0, x, dx, l, names, rfl, _⟩ := h; rfl
  · obtain ⟨H0, x, dx, l, names, rfl, hx, s0, nx, hl, hlen, hsz, q, qn, qs⟩ := h
    have hu := hu_of hr
    have hq : Sq K H l (names.map V.str) := hl.elim (fun h => .inl (Same.seq s0 h)) (fun h => .inr (h.keep s0).sq)
    refine ⟨_, (pss_cons (ps_for (L2.passes_of rfl) rfl (pi_any (pv 1)) (pg_name (i := 2) sc_Sheet___init__.nd rfl (by first | exact Or.inl rfl | exact Or.inr rfl)) (pss_one (ps_if (pt_not (pt_val (pe_callF G_is_name hr pass0 (pa_cons (pv 2) pa_nil)))) (pss_one (ps_raiseO rfl e_NoName (L2.takes_of rfl rfl rfl rfl))) pss_nil)))
        (pss_cons (ps_if (PW.pt (pw_or (pt_cmpR op_gt (pe_callB call_len_seq (by rfl) T.z_len PySem.boot_len (pa_cons (pv 1) pa_nil)) (pe_gc T.g_MOST_NAMES_sheets) (nomark _)) (pw_or1 (pt_cmpR op_lt (pe_lenSetS rfl (by rfl) T.z_len (by rfl) T.z_set (pv 1)) (pe_callB call_len_seq (by rfl) T.z_len PySem.boot_len (pa_cons (pv 1) pa_nil)) (nomark _))))) (pss_one (ps_raiseO rfl e_NoSheet (L2.takes_of rfl rfl rfl rfl))) pss_nil)
        (pss_cons (ps_fld (pv 0) (pe_callTy call_tuple_ofN (by rfl) T.z_tuple (show PySem.bootBuiltins "tuple" = some (.type "tuple") by decide +kernel) (pa_cons (pv 1) pa_nil)) rfl)
        (pss_cons (ps_fld (pv 0) (pe_lst pa_nil) rfl)
        (pss_one (ps_fld (pv 0) pe_dnewT rfl)))))), ?_⟩
    walk_at "rd"
    refine ⟨_, rfl, l, names.map V.str, rfl, for_any (K := K) (a := l) (xs := names.map V.str) (fun i σ H' => ∃ v2 : Option V, σ = [some (.ref x), some (.ref l), v2] ∧ H' = H ∧ ∀ n ∈ names.take i, isName n = true) ⟨none, rfl, rfl, by simp⟩ (hq.elim (fun h => .inl fun i σ H' _ ⟨_, _, e, _⟩ => e ▸ h) (fun h => .inr fun i σ H' _ ⟨_, _, e, _⟩ => e ▸ h)) ?_ ?_⟩
    · rintro i y σ H1 hy ⟨v2, rfl, rfl, hall⟩
      rw [List.getElem?_map] at hy
      obtain ⟨n, hn, rfl⟩ := Option.map_eq_some_iff.mp hy
      walk_at "rd"
      refine ⟨n, rfl, hsz n (List.mem_of_getElem? hn), _, rfl, ?_⟩
      cases e : isName n with
      | false => exact iteT (qn (fun z => by rw [z n (List.mem_of_getElem? hn)] at e; cases e) _ s0)
      | true =>
        refine iteF ⟨rfl, fun m hm => ?_⟩
        rw [List.take_succ, hn] at hm
        rcases List.mem_append.mp hm with hm | hm
        · exact hall m hm
        · rw [List.mem_singleton.mp hm]; exact e
    · rintro σ H1 ⟨v2, rfl, rfl, hall⟩
      rw [List.length_map, List.take_length] at hall
      walk_at "rd"
      refine ⟨_, hq, ?_⟩
      rw [List.length_map]
      by_cases h60 : names.length ≤ 60
      · rw [decide_eq_false (show ¬ (60 : Int) < (names.length : Nat) by omega)]
        refine iteF ⟨_, rfl, l, names, rfl, hq, hlen, fun n hn hnd => ⟨_, hq, _, rfl, ?_⟩⟩
        rw [List.length_map]
        by_cases hd : names.Nodup
        · rw [decide_eq_false (show ¬ (n : Int) < (names.length : Nat) by have := hnd.mpr hd; omega)]
          refine iteF ⟨_, rfl, l, rfl, names.map V.str, ?_⟩
          have hl1 : SqL K H1 l (names.map V.str) ∨ TupN H1 l (names.map V.str) := hl.imp (Same.seq s0) (TupN.keep · s0)
          rcases hl1 with h | h
          · refine .inl ⟨h, fun tn o ntn od => ?_⟩
            have s2 : Same H1 (upd H1 tn (.frz o (.tup (names.map V.str)))) := Same.new ntn
            have ht : TupN (upd H1 tn (.frz o (.tup (names.map V.str)))) tn (names.map V.str) := ⟨o, upd_same, od⟩
            generalize upd H1 tn (.frz o (.tup (names.map V.str))) = H2 at s2 ht ⊢
            have hx2 := s2 _ _ hx
            have s02 : Same H0 H2 := s0.trans s2
            refine ⟨_, rfl, x, _, dx, [], rfl, hx2, T.dr.opp.sh.c_Sheet.cl, T.dr.opp.sh.n_names, (by show 0 < 1000; decide), ?_⟩
            have hx3 : upd H2 x (.ins cs dx [("names", .ref tn)]) x = some (.ins cs dx [("names", .ref tn)]) := upd_same
            have ht3 : TupN (upd H2 x (.ins cs dx [("names", .ref tn)])) tn (names.map V.str) := let ⟨o2, e2, d2⟩ := ht; ⟨o2, by rw [upd_ne (fun z => by rw [z, hx2] at e2; cases e2)]; exact e2, d2⟩
            have s03 : Same H0 (upd H2 x (.ins cs dx [("names", .ref tn)])) := Same.mut s02 nx
            show tSeq (sFld K (tVar 0) (tLst tNil) (Str.ofString "nodes")) (sFld K (tVar 0) tDNewT (Str.ofString "numbers")) _ _ (upd H2 x (.ins cs dx [("names", .ref tn)]))
            generalize upd H2 x (.ins cs dx [("names", .ref tn)]) = H3 at hx3 ht3 s03 ⊢
            clear hx2 ht s2 s02
            walk_at "rd"
            refine ⟨line_ge (by simp), fun ln nln => ?_⟩
            have xl : x ≠ ln := ne_of_none hx3 nln
            have s04 : Same H0 (upd H3 ln (.lst [])) := s03.trans (Same.new nln)
            have hx4 : upd H3 ln (.lst []) x = some (.ins cs dx [("names", .ref tn)]) := Same.new nln _ _ hx3
            have ht4 : TupN (upd H3 ln (.lst [])) tn (names.map V.str) := ht3.keep (Same.new nln)
            have hl4 : upd H3 ln (.lst []) ln = some (.lst []) := upd_same
            generalize upd H3 ln (.lst []) = H4 at s04 hx4 ht4 hl4 ⊢
            refine ⟨_, rfl, x, _, dx, _, rfl, hx4, T.dr.opp.sh.c_Sheet.cl, T.dr.opp.sh.n_nodes, (by show 1 < 1000; decide), ?_⟩
            show ∀ dn, upd H4 x (.ins cs dx [("names", .ref tn), ("nodes", .ref ln)]) dn = none → _
            intro dn ndn
            have hx5 : upd H4 x (.ins cs dx [("names", .ref tn), ("nodes", .ref ln)]) x = some (.ins cs dx [("names", .ref tn), ("nodes", .ref ln)]) := upd_same
            have s05 : Same H0 (upd H4 x (.ins cs dx [("names", .ref tn), ("nodes", .ref ln)])) := Same.mut s04 nx
            have ht5 : TupN (upd H4 x (.ins cs dx [("names", .ref tn), ("nodes", .ref ln)])) tn (names.map V.str) := let ⟨o2, e2, d2⟩ := ht4; ⟨o2, by rw [upd_ne (fun z => by rw [z, hx4] at e2; cases e2)]; exact e2, d2⟩
            have hl5 : upd H4 x (.ins cs dx [("names", .ref tn), ("nodes", .ref ln)]) ln = some (.lst []) := by rw [upd_ne xl.symm]; exact hl4
            refine ⟨_, rfl, x, _, dx, _, rfl, Same.new ndn _ _ hx5, T.dr.opp.sh.c_Sheet.cl, T.dr.opp.sh.n_numbers, (by show 2 < 1000; decide), ?_⟩
            have ne : ∀ {z : Addr} {o : HO}, upd H4 x (.ins cs dx [("names", .ref tn), ("nodes", .ref ln)]) z = some o → z ≠ dn := fun e => ne_of_none e ndn
            refine q hall h60 hd _ tn ln dn ⟨upd_same, ?_, ⟨[], ?_, .nil⟩, ?_, Nat.zero_le _⟩ (Same.mut (s05.trans (Same.new ndn)) nx) (s03.free nln) (s05.free ndn)
            · obtain ⟨o2, e2, d2⟩ := ht5
              exact ⟨o2, by rw [upd_ne (ne_of e2 hx5 (by intro h; cases h)), upd_ne (ne e2)]; exact e2, d2⟩
            · rw [upd_ne xl.symm, upd_ne (ne hl5)]
              exact hl5
            · rw [upd_ne (ne hx5).symm]
              exact upd_same
          · refine .inr ⟨h.sq, ?_⟩
            have s2 : Same H1 H1 := Same.refl _
            have ht := h
            have hx2 := s2 _ _ hx
            have s02 : Same H0 H1 := s0.trans s2
            refine ⟨_, rfl, x, _, dx, [], rfl, hx2, T.dr.opp.sh.c_Sheet.cl, T.dr.opp.sh.n_names, (by show 0 < 1000; decide), ?_⟩
            have hx3 : upd H1 x (.ins cs dx [("names", .ref l)]) x = some (.ins cs dx [("names", .ref l)]) := upd_same
            have ht3 : TupN (upd H1 x (.ins cs dx [("names", .ref l)])) l (names.map V.str) := let ⟨o2, e2, d2⟩ := ht; ⟨o2, by rw [upd_ne (fun z => by rw [z, hx2] at e2; cases e2)]; exact e2, d2⟩
            have s03 : Same H0 (upd H1 x (.ins cs dx [("names", .ref l)])) := Same.mut s02 nx
            show tSeq (sFld K (tVar 0) (tLst tNil) (Str.ofString "nodes")) (sFld K (tVar 0) tDNewT (Str.ofString "numbers")) _ _ (upd H1 x (.ins cs dx [("names", .ref l)]))
            generalize upd H1 x (.ins cs dx [("names", .ref l)]) = H3 at hx3 ht3 s03 ⊢
            clear hx2 ht s2 s02
            walk_at "rd"
            refine ⟨line_ge (by simp), fun ln nln => ?_⟩
            have xl : x ≠ ln := ne_of_none hx3 nln
            have s04 : Same H0 (upd H3 ln (.lst [])) := s03.trans (Same.new nln)
            have hx4 : upd H3 ln (.lst []) x = some (.ins cs dx [("names", .ref l)]) := Same.new nln _ _ hx3
            have ht4 : TupN (upd H3 ln (.lst [])) l (names.map V.str) := ht3.keep (Same.new nln)
            have hl4 : upd H3 ln (.lst []) ln = some (.lst []) := upd_same
            generalize upd H3 ln (.lst []) = H4 at s04 hx4 ht4 hl4 ⊢
            refine ⟨_, rfl, x, _, dx, _, rfl, hx4, T.dr.opp.sh.c_Sheet.cl, T.dr.opp.sh.n_nodes, (by show 1 < 1000; decide), ?_⟩
            show ∀ dn, upd H4 x (.ins cs dx [("names", .ref l), ("nodes", .ref ln)]) dn = none → _
            intro dn ndn
            have hx5 : upd H4 x (.ins cs dx [("names", .ref l), ("nodes", .ref ln)]) x = some (.ins cs dx [("names", .ref l), ("nodes", .ref ln)]) := upd_same
            have s05 : Same H0 (upd H4 x (.ins cs dx [("names", .ref l), ("nodes", .ref ln)])) := Same.mut s04 nx
            have ht5 : TupN (upd H4 x (.ins cs dx [("names", .ref l), ("nodes", .ref ln)])) l (names.map V.str) := let ⟨o2, e2, d2⟩ := ht4; ⟨o2, by rw [upd_ne (fun z => by rw [z, hx4] at e2; cases e2)]; exact e2, d2⟩
            have hl5 : upd H4 x (.ins cs dx [("names", .ref l), ("nodes", .ref ln)]) ln = some (.lst []) := by rw [upd_ne xl.symm]; exact hl4
            refine ⟨_, rfl, x, _, dx, _, rfl, Same.new ndn _ _ hx5, T.dr.opp.sh.c_Sheet.cl, T.dr.opp.sh.n_numbers, (by show 2 < 1000; decide), ?_⟩
            have ne : ∀ {z : Addr} {o : HO}, upd H4 x (.ins cs dx [("names", .ref l), ("nodes", .ref ln)]) z = some o → z ≠ dn := fun e => ne_of_none e ndn
            refine q hall h60 hd _ l ln dn ⟨upd_same, ?_, ⟨[], ?_, .nil⟩, ?_, Nat.zero_le _⟩ (Same.mut (s05.trans (Same.new ndn)) nx) (s03.free nln) (s05.free ndn)
            · obtain ⟨o2, e2, d2⟩ := ht5
              exact ⟨o2, by rw [upd_ne (ne_of e2 hx5 (by intro h; cases h)), upd_ne (ne e2)]; exact e2, d2⟩
            · rw [upd_ne xl.symm, upd_ne (ne hl5)]
              exact hl5
            · rw [upd_ne (ne hx5).symm]
              exact upd_same
        · rw [decide_eq_true (show (n : Int) < (names.length : Nat) by
            have : ¬ n = names.length := fun e => hd (hnd.mp e)
            omega)]
          exact iteT (qs hall (fun z => hd z.2) _ s0)
      · rw [decide_eq_true (show (60 : Int) < (names.length : Nat) by omega)]
        exact iteT (qs hall (fun z => h60 z.1) _ s0)
def spNeed (cs : Addr) (xc : Xc) : Sp := fun vs H Q E => ∃ (x dx tn ln dn : Addr) (names : List Str) (ns : List Sh.Nd) (k : Int), vs = [.ref x, .int k] ∧ ShO cs H x dx tn ln dn names ns ∧ (0 ≤ k ∧ k < ns.length + 2 → Q (.int k) H) ∧ (¬ (0 ≤ k ∧ k < ns.length + 2) → ∀ H', Same H H' → E (.ref xc.sheet) none H')
theorem disp_need (T : TSh K mg cl xc cs) : DispAt P w K mg base (L2.CX P w) (fun C => C = cs) "need" 1 ["self", "node"] (fun _ => spNeed cs xc) := by
  have e_NoSheet := T.e_sheet
  refine ⟨fun C hC => ?_⟩
  subst hC
  refine methAt_okX T.dr.opp.sh.c_Sheet.cl T.m_need sc_Sheet_need (fun vs H Q E h => ?_) (fun fa cdv A outer st H vs Q E hr h => ?_)
  · obtain ⟨x, dx, tn, ln, dn, names, ns, k, rfl, _⟩ := h; rfl
  · obtain ⟨x, dx, tn, ln, dn, names, ns, k, rfl, s, q, qx⟩ := h
    have hu := hu_of hr
    refine ⟨_, (pss_cons (ps_if (PW.pt (pw_or (pt_not (pt_val (pe_callB call_isInt (by rfl) T.z_isinstance (by decide +kernel) (pa_cons (pv 1) (pa_cons (pe_bltn (v := .ty "int") (by rfl) T.z_int (by decide +kernel) rfl) pa_nil))))) (pw_or (pt_val (pe_callB call_isBool (by rfl) T.z_isinstance (by decide +kernel) (pa_cons (pv 1) (pa_cons (pe_bltn (v := .ty "bool") (by rfl) T.z_bool (by decide +kernel) rfl) pa_nil)))) (pw_or1 (pt_not (pt_chain op_le op_lt pe_int (pv 1) (pe_op op_add (pe_callB call_len_seq (by rfl) T.z_len PySem.boot_len (pa_cons (pe_fld (pv 0) rfl) pa_nil)) pe_int))))))) (pss_one (ps_raiseO rfl e_NoSheet (L2.takes_of rfl rfl rfl rfl))) pss_nil)
        (pss_one (ps_ret (pv 1)))), ?_⟩
    walk_at "rd"
    unfold tChain
    walk_at "rd"
    obtain ⟨vs, h1, h2⟩ := s.hl
    have hl := h2.length
    by_cases h0 : 0 ≤ k
    · rw [decide_eq_true h0]
      refine iteT ⟨_, rfl, x, _, dx, _, _, rfl, s.ob, T.dr.opp.sh.c_Sheet.cl, T.dr.opp.sh.n_nodes, lkS2, ln, rfl, _, .inl (SqL.of h1), ?_⟩
      by_cases hk : k < (ns.length : Int) + 2
      · rw [decide_eq_true (show k < (vs.length : Nat) + 2 by omega)]
        exact iteF (q ⟨h0, hk⟩)
      · rw [decide_eq_false (show ¬ k < (vs.length : Nat) + 2 by omega)]
        exact iteT (qx (fun z => hk z.2) _ (Same.refl _))
    · rw [decide_eq_false h0]
      exact iteF (qx (fun z => h0 z.1) _ (Same.refl _))
def spNode (cl : Cl) (cs : Addr) : Sp := fun vs H Q _ => ∃ (x dx tn ln dn : Addr) (names : List Str) (ns ns' : List Sh.Nd) (v : V) (c : Cond) (r : Nat), vs = [.ref x, v] ∧
  ShO cs H x dx tn ln dn names ns ∧ Sh.Wf names.length ns ∧ names.length ≤ 60 ∧ IsP cl H v c ∧ c.depth ≤ 20 ∧ c.size ≤ 60 ∧ c.within names = true ∧ draw names c ns = some (r, ns') ∧ ns'.length ≤ 2000 ∧
  ∀ H', K3 ln dn dn H H' → ShO cs H' x dx tn ln dn names ns' → Q (.int r) H'
theorem disp_node (T : TSh K mg cl xc cs) : DispAt P w K mg base CX0 (fun C => C = cs) "node" 85 ["self", "part"] (fun _ => spNode cl cs) := by
  have GX_drawn : DispAt P w K mg base (L2.CX P w) (fun C => C = cs) "drawn" (20 + 64) ["self", "part"] (fun _ => spSDrawn cl cs xc 20) := disp_sdrawn T.dr 20
  have G_contacts : DispAt P w K mg base CX0 cl.has "contacts" 22 ["self"] (spContacts cl 20) := disp_contacts T.gather 20
  refine ⟨fun C hC => ?_⟩
  subst hC
  refine methAt_ok T.dr.opp.sh.c_Sheet.cl T.m_node sc_Sheet_node (fun vs H Q E h => ?_) (fun fa cdv A outer st H vs Q E hr h => ?_)
  · obtain ⟨x, dx, tn, ln, dn, names, ns, ns', v, c, r, rfl, _⟩ := h; rfl
  · obtain ⟨x, dx, tn, ln, dn, names, ns, ns', v, c, r, rfl, s, wf, hl, p, hdp, hsz, hw, hj, hle, q⟩ := h
    have hu := hu_of hr
    refine ⟨_, (pss_cons (ps_for PassesOwn.never rfl (pi_tup (pe_methD0 G_contacts hr pass0 (pv 1))) (pg_name (i := 2) sc_Sheet_node.nd rfl (by first | exact Or.inl rfl | exact Or.inr rfl)) (pss_one (ps_if (pt_cmpR op_notIn_seq (pv 2) (pe_fld (pv 0) rfl) rfl) (pss_one ps_never) pss_nil)))
        (pss_cons (ps_set (i := 3) sc_Sheet_node.nd rfl (by first | exact Or.inl rfl | exact Or.inr rfl) (pe_callB call_len_seq (by rfl) T.z_len PySem.boot_len (pa_cons (pe_fld (pv 0) rfl) pa_nil)))
        (pss_one (ps_try_calm rfl (fun W pn xe tk _ => (pss_one (ps_ret (pe_methT GX_drawn hr tk (pv 0) (pa_cons (pv 1) pa_nil))))))))), ?_⟩
    walk_at "rd"
    obtain ⟨a', C', dx', fs', rfl, ha', hC', hl'⟩ := meth_of (m := "contacts") (by decide +kernel) p
    refine ⟨_, rfl, a', C', dx', fs', rfl, ha', hC', hl', a', dx', fs', c, rfl, ha', p, hdp, by omega, fun H1 t1 s1 ht1 _ => ?_⟩
    have sh1 := s.keep s1
    refine ⟨t1, rfl, ⟨_, SqT.of ht1⟩, for_tup (K := K) (a := t1) (xs := c.contacts.map V.str) (fun i σ H' => ∃ v2 : Option V, σ = [some (.ref x), some (.ref a'), v2, none] ∧ H' = H1) ⟨none, rfl, rfl⟩ (fun i σ H' _ ⟨_, _, e⟩ => by rw [e]; exact SqT.of ht1) ?_ ?_⟩
    · rintro i y σ H2 hy ⟨v2, rfl, rfl⟩
      rw [List.getElem?_map] at hy
      obtain ⟨n, hn, rfl⟩ := Option.map_eq_some_iff.mp hy
      have hin : n ∈ names := Cond.within_contacts hw n (List.mem_of_getElem? hn)
      walk_at "rd"
      refine ⟨_, rfl, x, _, dx, _, _, rfl, sh1.ob, T.dr.opp.sh.c_Sheet.cl, T.dr.opp.sh.n_names, lkS1, tn, _, rfl, .inr sh1.hn.sq, rfl, all_flatN names, _, rfl, ?_⟩
      rw [show inV (V.str n) (names.map V.str) = true by rw [inV_strs]; exact decide_eq_true hin]
      exact iteF rfl
    · rintro σ H2 ⟨v2, rfl, rfl⟩
      walk_at "rd"
      obtain ⟨vs, h1, h2⟩ := sh1.hl
      refine ⟨_, rfl, x, _, dx, _, _, rfl, sh1.ob, T.dr.opp.sh.c_Sheet.cl, T.dr.opp.sh.n_nodes, lkS2, ln, rfl, _, .inl (SqL.of h1), ?_⟩
      exact ⟨_, rfl, x, C, dx, _, rfl, sh1.ob, rfl, lkSn (by decide +kernel), _, rfl, x, dx, tn, ln, dn, names, ns, ns', .ref a', c, r, rfl, sh1, wf, hl, p.mono (Same.imm s1), hdp, hw, hj, fun _ H' k s2 => q H' (K3.trans (Same.k3 s1) k) s2, fun g => absurd g (by omega)⟩
end

--%% MB
/-! ## the law's cells, words, names (sheets) -/
def cellC (ns : List Int) (k : Int) : Int := if ns.length = 0 then k else ns.getD (k % (ns.length : Int)).toNat 0 + 3 * (k / (ns.length : Int))
def mixed (c k : Int) : Int := (((c + 7919 * k + 11) * 48271 % 2147483647) * ((c + 7919 * k + 11) * 48271 % 2147483647) + 40692 * ((c + 7919 * k + 11) * 48271 % 2147483647)) % 2147483399
theorem mixed_nn (c k : Int) : 0 ≤ mixed c k := Int.emod_nonneg _ (by decide)
def signAt (c : Int) (k : Nat) : Nat := 97 + (mixed c k / 31 % 26).toNat
def wordL (c : Int) (n : Nat) : List Nat := (List.range n).map (signAt c)
theorem wordL_len (c : Int) (n : Nat) : (wordL c n).length = n := by simp [wordL]
theorem wordL_succ (c : Int) (n : Nat) : wordL c (n + 1) = wordL c n ++ [signAt c n] := by simp [wordL, List.range_succ]
theorem wordL_low (c : Int) (n : Nat) : ∀ x ∈ wordL c n, 97 ≤ x ∧ x ≤ 122 := by
  intro x hx
  obtain ⟨k, _, rfl⟩ := List.mem_map.mp hx
  unfold signAt
  have h1 : 0 ≤ mixed c k / 31 % 26 := Int.emod_nonneg _ (by decide)
  have h2 : mixed c k / 31 % 26 < 26 := Int.emod_lt_of_pos _ (by decide)
  omega
theorem letters_at {j : Int} (h0 : 0 ≤ j) (h1 : j < 26) : atI (("abcdefghijklmnopqrstuvwxyz" : Str)).cps.toList j = some (97 + j.toNat) := by
  have e : ("abcdefghijklmnopqrstuvwxyz" : Str).cps.toList = (List.range 26).map (97 + ·) := by decide +kernel
  rw [e]
  refine atI_int h0 ?_
  rw [List.getElem?_map, List.getElem?_range (by omega)]
  rfl
def spCellAt (K : PySem.W.Frag) : Sp := fun vs H Q _ => ∃ (a : Addr) (ns : List Int) (k : Int), vs = [.ref a, .int k] ∧ SqL K H a (ns.map V.int) ∧ ns.length ≤ 1000 ∧ 0 ≤ k ∧ Q (.int (cellC ns k)) H
def spMixed : Sp := fun vs H Q _ => ∃ c k : Int, vs = [.int c, .int k] ∧ Q (.int (mixed c k)) H
def spWord : Sp := fun vs H Q _ => ∃ c n : Int, vs = [.int c, .int n] ∧ 0 ≤ n ∧ n ≤ 1000 ∧ Q (.str (mkS (wordL c n.toNat))) H
/-- names, none twice -/
structure NamesU (H : Hp) (p : Addr) (ns : List Str) (m : Nat) : Prop where
  at_ : H p = some (.lst (ns.map V.str))
  len : ns.length = m
  ok : ∀ n ∈ ns, isName n = true
  nd : ns.Nodup
  sm : ∀ n ∈ ns, n.length ≤ 8
theorem NamesU.keep {H H' : Hp} {p : Addr} {ns : List Str} {m : Nat} (h : NamesU H p ns m) (s : Same H H') : NamesU H' p ns m := ⟨s _ _ h.at_, h.len, h.ok, h.nd, h.sm⟩
def spNames : Sp := fun vs H Q _ => ∃ (c : Int) (m : Nat), vs = [.int c, .int m] ∧ m ≤ 26 ∧ ∀ (H' : Hp) (p : Addr) (ns : List Str), Same H H' → H p = none → NamesU H' p ns m → Q (.ref p) H'
def EndQ (n : Str) : Prop := n.cps.toList.getLast? = some 113
def spNamesQ : Sp := fun vs H Q _ => ∃ (c : Int) (m : Nat), vs = [.int c, .int m] ∧ m ≤ 26 ∧ ∀ (H' : Hp) (p : Addr) (ns : List Str), Same H H' → H p = none → NamesU H' p ns m → (∀ n ∈ ns, EndQ n) → Q (.ref p) H'
abbrev s__law_cell_at : Stmt := top 54
theorem sc__law_cell_at : FnScope ["_law_script", "_law_k"] ["_law_script", "_law_k"] (defScope s__law_cell_at) := ⟨rfl, rfl, rfl, by decide +kernel, rfl, by decide +kernel, by decide +kernel⟩
abbrev s__law_mixed : Stmt := top 55
theorem sc__law_mixed : FnScope ["_law_cell", "_law_k", "_law_mix"] ["_law_cell", "_law_k"] (defScope s__law_mixed) := ⟨rfl, rfl, rfl, by decide +kernel, rfl, by decide +kernel, by decide +kernel⟩
abbrev s__law_word : Stmt := top 56
theorem sc__law_word : FnScope ["_law_cell", "_law_size", "_law_letters", "_law_word_here", "_law_k"] ["_law_cell", "_law_size"] (defScope s__law_word) := ⟨rfl, rfl, rfl, by decide +kernel, rfl, by decide +kernel, by decide +kernel⟩
abbrev s__law_names : Stmt := top 57
theorem sc__law_names : FnScope ["_law_cell", "_law_many", "_law_letters", "_law_base", "_law_at", "_law_hop", "_law_found", "_law_k", "_law_letter"] ["_law_cell", "_law_many"] (defScope s__law_names) := ⟨rfl, rfl, rfl, by decide +kernel, rfl, by decide +kernel, by decide +kernel⟩
structure TCells (K : PySem.W.Frag) (mg : Str → Option Value) : Prop where
  d_cell_at : DefAt K mg "_law_cell_at" s__law_cell_at ["_law_script", "_law_k"]
  d_mixed : DefAt K mg "_law_mixed" s__law_mixed ["_law_cell", "_law_k"]
  d_word : DefAt K mg "_law_word" s__law_word ["_law_cell", "_law_size"]
  d_names : DefAt K mg "_law_names" s__law_names ["_law_cell", "_law_many"]
  z_len : mg "len" = none
  z_range : mg "range" = none
/-- the name of a number -/
def nameL (b : List Nat) (i x : Nat) : List Nat := b.take i ++ [x] ++ b.drop i ++ [113]
theorem kept_q : ∀ z ∈ keptL, z.cps.toList.getLast? ≠ some 113 := by decide +kernel
theorem nameL_ok {b : List Nat} {i x : Nat} (hb : ∀ y ∈ b, 97 ≤ y ∧ y ≤ 122) (hl : b.length ≤ 6) (hx : 97 ≤ x ∧ x ≤ 122) : isName (mkS (nameL b i x)) = true := by
  have low : ∀ y ∈ nameL b i x, 97 ≤ y ∧ y ≤ 122 := fun y hy => by
    unfold nameL at hy
    rcases List.mem_append.mp hy with hy | hy
    · rcases List.mem_append.mp hy with hy | hy
      · rcases List.mem_append.mp hy with hy | hy
        · exact hb y (List.mem_of_mem_take hy)
        · rw [List.mem_singleton.mp hy]; exact hx
      · exact hb y (List.mem_of_mem_drop hy)
    · rw [List.mem_singleton.mp hy]; omega
  have len : (nameL b i x).length = b.length + 2 := by
    unfold nameL
    simp only [List.length_append, List.length_take, List.length_drop, List.length_singleton]
    omega
  have last : (nameL b i x).getLast? = some 113 := by unfold nameL; rw [List.getLast?_append]; rfl
  unfold isName isWord
  rw [tl_mkS, mkS_len]
  have e1 : (nameL b i x).all isLow = true := List.all_eq_true.mpr fun y hy => by
    unfold isLow
    exact decide_eq_true (low y hy)
  have e2 : (nameL b i x).isEmpty = false := by
    cases h : nameL b i x with
    | nil => rw [h] at len; simp at len
    | cons => rfl
  have e4 : ¬ mkS (nameL b i x) ∈ keptL := fun h => kept_q _ h (by rw [tl_mkS]; exact last)
  rw [e1, e2, decide_eq_true (by omega), decide_eq_false e4]
  rfl
theorem nameL_inj {b : List Nat} {i x y : Nat} (h : mkS (nameL b i x) = mkS (nameL b i y)) : x = y := by
  have h := mkS_inj h
  unfold nameL at h
  have h := List.append_cancel_right h
  have h := List.append_cancel_right h
  have h := List.append_cancel_left h
  injection h
section
variable {P : Program} {w : World} {K : PySem.W.Frag} {mg : Str → Option Value} {base : Heap}
theorem ok_cell_at (T : TCells K mg) : FnAt P w K mg base CX0 "_law_cell_at" 1 ["_law_script", "_law_k"] (spCellAt K) := by
  refine fnAt_ok T.d_cell_at sc__law_cell_at (fun vs H Q E h => ?_) (fun f cdv A outer s H vs Q E hr h => ?_)
  · obtain ⟨a, ns, k, rfl, _⟩ := h; rfl
  · obtain ⟨a, ns, n, rfl, hs, hz, h0, k⟩ := h
    refine ⟨_, (pss_cons (ps_if (pt_cmpR op_eq (pe_callB call_len_seq (by rfl) T.z_len PySem.boot_len (pa_cons (pv 0) pa_nil)) pe_int (nomark _)) (pss_one (ps_ret (pv 1))) pss_nil)
        (pss_one (ps_ret (pe_op op_add (pe_ix ix_list (pv 0) (pe_op op_mod (pv 1) (pe_callB call_len_seq (by rfl) T.z_len PySem.boot_len (pa_cons (pv 0) pa_nil))) (fun _ _ => rfl)) (pe_op op_mul pe_int (pe_op op_fdiv (pv 1) (pe_callB call_len_seq (by rfl) T.z_len PySem.boot_len (pa_cons (pv 0) pa_nil)))))))), ?_⟩
    walk_at "rd"
    refine ⟨_, .inl hs, ?_⟩
    rw [List.length_map]
    unfold cellC at k
    by_cases hl : ns.length = 0
    · rw [decide_eq_true (show (ns.length : Int) = 0 by omega)]
      rw [if_pos hl] at k
      exact iteT k
    · rw [decide_eq_false (show ¬ (ns.length : Int) = 0 by omega)]
      rw [if_neg hl] at k
      refine iteF ?_
      have m0 := Int.emod_nonneg n (show (ns.length : Int) ≠ 0 by omega)
      have m1 := Int.emod_lt_of_pos n (show (0 : Int) < ns.length by omega)
      have hn : (n % (ns.length : Int)).toNat < ns.length := by omega
      rw [List.getD_eq_getElem?_getD, List.getElem?_eq_getElem hn] at k
      refine ⟨_, .inl hs, ?_, a, _, _, .int ns[(n % (ns.length : Int)).toNat], rfl, rfl, hs, ?_, _, .inl hs, ?_, _, rfl, ?_⟩
      · rw [List.length_map]; omega
      · rw [List.length_map]
        exact atI_int m0 (by rw [List.getElem?_map, List.getElem?_eq_getElem hn]; rfl)
      · rw [List.length_map]; omega
      · rw [List.length_map]
        exact k
theorem ok_mixed (T : TCells K mg) : FnAt P w K mg base CX0 "_law_mixed" 1 ["_law_cell", "_law_k"] spMixed := by
  refine fnAt_ok T.d_mixed sc__law_mixed (fun vs H Q E h => ?_) (fun f cdv A outer s H vs Q E hr h => ?_)
  · obtain ⟨c, k, rfl, _⟩ := h; rfl
  · obtain ⟨c, n, rfl, k⟩ := h
    refine ⟨_, (pss_cons (ps_set (i := 2) sc__law_mixed.nd rfl (by first | exact Or.inl rfl | exact Or.inr rfl) (pe_op op_mod (pe_op op_mul (pe_op op_add (pe_op op_add (pv 0) (pe_op op_mul pe_int (pv 1))) pe_int) pe_int) pe_int))
        (pss_one (ps_ret (pe_op op_mod (pe_op op_add (pe_op op_mul (pv 2) (pv 2)) (pe_op op_mul pe_int (pv 2))) pe_int)))), ?_⟩
    walk_at "rd"
    have h1 : 0 ≤ (c + 7919 * n + 11) * 48271 % 2147483647 := Int.emod_nonneg _ (by decide)
    have h2 : (c + 7919 * n + 11) * 48271 % 2147483647 < 2147483647 := Int.emod_lt_of_pos _ (by decide)
    exact ⟨.inl ⟨by omega, by omega⟩, k⟩
theorem ok_word (T : TCells K mg) : FnAt P w K mg base CX0 "_law_word" 2 ["_law_cell", "_law_size"] spWord := by
  have G__law_mixed : FnAt P w K mg base CX0 "_law_mixed" 1 _ spMixed := ok_mixed T
  refine fnAt_ok T.d_word sc__law_word (fun vs H Q E h => ?_) (fun f cdv A outer s H vs Q E hr h => ?_)
  · obtain ⟨c, k, rfl, _⟩ := h; rfl
  · obtain ⟨c, n, rfl, hn0, hn, k⟩ := h
    refine ⟨_, (pss_cons (ps_set (i := 2) sc__law_word.nd rfl (by first | exact Or.inl rfl | exact Or.inr rfl) pe_str)
        (pss_cons (ps_set (i := 3) sc__law_word.nd rfl (by first | exact Or.inl rfl | exact Or.inr rfl) pe_str)
        (pss_cons (ps_for PassesOwn.never rfl (pi_range1 rfl T.z_range (pa_cons (pv 1) pa_nil)) (pg_name (i := 4) sc__law_word.nd rfl (by first | exact Or.inl rfl | exact Or.inr rfl)) (pss_one (ps_set (i := 3) sc__law_word.nd rfl (by first | exact Or.inl rfl | exact Or.inr rfl) (pe_op op_add_str (pv 3) (pe_ix ix_str (pv 2) (pe_op op_mod (pe_op op_fdiv (pe_callF G__law_mixed hr pass0 (pa_cons (pv 0) (pa_cons (pv 4) pa_nil))) pe_int) pe_int) (fun _ _ => rfl))))))
        (pss_one (ps_ret (pv 3)))))), ?_⟩
    walk_at "rd"
    refine ⟨_, rfl, _, rfl, by omega, by omega, for_range (lo := 0) (n := n.toNat) (fun i σ H' => ∃ v, σ = [some (.int c), some (.int n), some (.str ("abcdefghijklmnopqrstuvwxyz" : Str)), some (.str (mkS (wordL c i))), v] ∧ H' = H) ⟨none, by rw [empty_mk]; rfl, rfl⟩ ?_ ?_⟩
    · rintro i σ H' hi ⟨v, rfl, rfl⟩
      walk_at "rd"
      have h1 : 0 ≤ mixed c (i : Nat) / 31 % 26 := Int.emod_nonneg _ (by decide)
      have h2 : mixed c (i : Nat) / 31 % 26 < 26 := Int.emod_lt_of_pos _ (by decide)
      rw [Int.zero_add]
      refine ⟨_, _, rfl, _, rfl, by decide +kernel, _, letters_at h1 h2, ?_, _, ⟨?_, rfl⟩, rfl⟩
      · rw [mkS_one, mkS_len, mkS_len, wordL_len, sizeLine_eq]
        simp
        omega
      · rw [mkS_one, mkS_app, wordL_succ]
        rfl
    · rintro σ H' ⟨v, rfl, rfl⟩
      walk_at "rd"
      exact k
theorem ok_namesQ (T : TCells K mg) : FnAt P w K mg base CX0 "_law_names" 3 ["_law_cell", "_law_many"] spNamesQ := by
  have G__law_word : FnAt P w K mg base CX0 "_law_word" 2 _ spWord := ok_word T
  refine fnAt_ok T.d_names sc__law_names (fun vs H Q E h => ?_) (fun f cdv A outer s H vs Q E hr h => ?_)
  · obtain ⟨c, m, rfl, _⟩ := h; rfl
  · obtain ⟨c, m, rfl, hm, k⟩ := h
    refine ⟨_, (pss_cons (ps_set (i := 2) sc__law_names.nd rfl (by first | exact Or.inl rfl | exact Or.inr rfl) pe_str)
        (pss_cons (ps_set (i := 3) sc__law_names.nd rfl (by first | exact Or.inl rfl | exact Or.inr rfl) (pe_callF G__law_word hr pass0 (pa_cons (pv 0) (pa_cons (pe_op op_mod (pv 0) pe_int) pa_nil))))
        (pss_cons (ps_set (i := 4) sc__law_names.nd rfl (by first | exact Or.inl rfl | exact Or.inr rfl) (pe_op op_mod (pe_op op_fdiv (pv 0) pe_int) (pe_op op_add (pe_callB call_len_str (by rfl) T.z_len PySem.boot_len (pa_cons (pv 3) pa_nil)) pe_int)))
        (pss_cons (ps_set (i := 5) sc__law_names.nd rfl (by first | exact Or.inl rfl | exact Or.inr rfl) (pe_ix ix_list (pe_lst (pa_cons pe_int (pa_cons pe_int (pa_cons pe_int pa_nil)))) (pe_op op_mod (pe_op op_fdiv (pv 0) pe_int) pe_int) (fun _ _ => rfl)))
        (pss_cons (ps_set (i := 6) sc__law_names.nd rfl (by first | exact Or.inl rfl | exact Or.inr rfl) (pe_lst pa_nil))
        (pss_cons (ps_for PassesOwn.never rfl (pi_range1 rfl T.z_range (pa_cons (pv 1) pa_nil)) (pg_name (i := 7) sc__law_names.nd rfl (by first | exact Or.inl rfl | exact Or.inr rfl)) (pss_cons (ps_set (i := 8) sc__law_names.nd rfl (by first | exact Or.inl rfl | exact Or.inr rfl) (pe_ix ix_str (pv 2) (pe_op op_mod (pe_op op_add (pe_op op_fdiv (pv 0) pe_int) (pe_op op_mul (pv 5) (pv 7))) pe_int) (fun _ _ => rfl)))
          (pss_one (ps_expr (pe_bm PySem.F.plainAttrs_list PySem.F.slot_list_append PySem.F.type_list_append mt_append (pv 6) (pa_cons (pe_op op_add_str (pe_op op_add_str (pe_op op_add_str (pe_slice sl_str (pv 3) po_none (po_some (pv 4))) (pv 8)) (pe_slice sl_str (pv 3) (po_some (pv 4)) po_none)) pe_str) pa_nil))))))
        (pss_one (ps_ret (pv 6))))))))), ?_⟩
    walk_at "rd"
    have h70 := Int.emod_nonneg c (show (7 : Int) ≠ 0 by decide)
    have h71 := Int.emod_lt_of_pos c (show (0 : Int) < 7 by decide)
    refine ⟨c, c % 7, rfl, h70, by omega, ?_⟩
    walk_at "rd"
    have hbl : (wordL c (c % 7).toNat).length ≤ 6 := by rw [wordL_len]; omega
    have hbw := wordL_low c (c % 7).toNat
    generalize wordL c (c % 7).toNat = b at hbl hbw
    rw [mkS_len]
    have hb1 : (0 : Int) < (b.length : Nat) + 1 := by omega
    have ha0 := Int.emod_nonneg (c / 7) (show ((b.length : Nat) : Int) + 1 ≠ 0 by omega)
    generalize c / 7 % (((b.length : Nat) : Int) + 1) = at_ at ha0
    obtain ⟨i, rfl⟩ := Int.eq_ofNat_of_zero_le ha0
    have h30 := Int.emod_nonneg (c / 49) (show (3 : Int) ≠ 0 by decide)
    have h31 := Int.emod_lt_of_pos (c / 49) (show (0 : Int) < 3 by decide)
    obtain ⟨hop, hh, hat⟩ : ∃ hop : Nat, (hop = 1 ∨ hop = 3 ∨ hop = 5) ∧ atI [V.int 1, V.int 3, V.int 5] (c / 49 % 3) = some (.int (hop : Int)) := by
      rcases (show c / 49 % 3 = 0 ∨ c / 49 % 3 = 1 ∨ c / 49 % 3 = 2 by omega) with e | e | e <;> rw [e]
      · exact ⟨1, .inl rfl, rfl⟩
      · exact ⟨3, .inr (.inl rfl), rfl⟩
      · exact ⟨5, .inr (.inr rfl), rfl⟩
    refine ⟨line_ge (by omega), hb1, line_ge (by simp), fun p1 np1 => ⟨p1, _, _, _, rfl, rfl, SqL.of upd_same, hat, line_ge (by simp), fun p np => ?_⟩⟩
    have s1 : Same H (upd (upd H p1 (.lst [.int 1, .int 3, .int 5])) p (.lst [])) := (Same.new np1).trans (Same.new np)
    have np0 : H p = none := (Same.new np1).free np
    have hp0 : upd (upd H p1 (.lst [.int 1, .int 3, .int 5])) p (.lst []) p = some (.lst []) := upd_same
    generalize upd (upd H p1 (.lst [.int 1, .int 3, .int 5])) p (.lst []) = H1 at s1 hp0 ⊢
    let xs : Nat → Nat := fun j => 97 + ((c / 147 + (hop : Int) * (j : Int)) % 26).toNat
    have xl : ∀ j, 97 ≤ xs j ∧ xs j ≤ 122 := fun j => by
      have h1 := Int.emod_nonneg (c / 147 + (hop : Int) * (j : Int)) (show (26 : Int) ≠ 0 by decide)
      have h2 := Int.emod_lt_of_pos (c / 147 + (hop : Int) * (j : Int)) (show (0 : Int) < 26 by decide)
      show 97 ≤ 97 + _ ∧ 97 + _ ≤ 122
      omega
    have xi : ∀ j k, j < k → k < 26 → xs j ≠ xs k := fun j k hjk hk6 e => by
      have h1 := Int.emod_nonneg (c / 147 + (hop : Int) * (j : Int)) (show (26 : Int) ≠ 0 by decide)
      have h2 := Int.emod_nonneg (c / 147 + (hop : Int) * (k : Int)) (show (26 : Int) ≠ 0 by decide)
      have e' : ((c / 147 + (hop : Int) * (j : Int)) % 26).toNat = ((c / 147 + (hop : Int) * (k : Int)) % 26).toNat := by
        have e : 97 + ((c / 147 + (hop : Int) * (j : Int)) % 26).toNat = 97 + ((c / 147 + (hop : Int) * (k : Int)) % 26).toNat := e
        omega
      rcases hh with rfl | rfl | rfl <;> omega
    refine ⟨_, rfl, _, rfl, by omega, by omega, for_range (lo := 0) (n := m) (fun j σ H' => ∃ (v7 v8 : Option V), σ = [some (.int c), some (.int m), some (.str ("abcdefghijklmnopqrstuvwxyz" : Str)), some (.str (mkS b)), some (.int (i : Nat)), some (.int (hop : Int)), some (.ref p), v7, v8] ∧ Same H H' ∧ H' p = some (.lst (((List.range j).map fun j => mkS (nameL b i (xs j))).map V.str)))
      ⟨none, none, rfl, s1, hp0⟩ ?_ ?_⟩
    · rintro j σ H2 hj ⟨v7, v8, rfl, s2, hp2⟩
      walk_at "rd"
      rw [Int.zero_add]
      have h1 := Int.emod_nonneg (c / 147 + (hop : Int) * (j : Int)) (show (26 : Int) ≠ 0 by decide)
      have h2 := Int.emod_lt_of_pos (c / 147 + (hop : Int) * (j : Int)) (show (0 : Int) < 26 by decide)
      refine ⟨.inl ⟨by omega, by omega⟩, line_ge (by decide +kernel), _, letters_at h1 h2, ?_⟩
      have l1 : (b.take i).length ≤ 6 := by rw [List.length_take]; omega
      have l2 : (b.drop i).length ≤ 6 := by rw [List.length_drop]; omega
      refine ⟨_, rfl, .inl ⟨rfl, _, SqL.of hp2⟩, ?_⟩
      walk_at "rd"
      rw [cutS_to, cutS_from, mkS_one, mkS_app, mkS_app, show ("q" : Str) = mkS [113] by decide +kernel, mkS_app]
      simp only [mkS_len]
      refine ⟨line_ge ?_, line_ge ?_, line_ge ?_, line_ge ?_, line_ge ?_, p, _, _, rfl, rfl, hp2, ?_, ?_⟩
      iterate 5 first | omega | (simp only [List.length_append, List.length_singleton]; omega)
      · rw [List.length_map, List.length_map, List.length_range]
        exact small1000 (by omega)
      · refine ⟨_, _, ⟨rfl, rfl⟩, Same.mut s2 np0, ?_⟩
        rw [upd_same, List.range_succ, List.map_append, List.map_append]
        rfl
    · rintro σ H2 ⟨v7, v8, rfl, s2, hp2⟩
      walk_at "rd"
      refine k H2 p _ s2 np0 ⟨hp2, by simp, fun n hn => ?_, ?_, fun n hn => ?_⟩ (fun n hn => ?_)
      · obtain ⟨j, _, rfl⟩ := List.mem_map.mp hn
        exact nameL_ok hbw hbl (xl j)
      · refine nodup_map_range fun a d ha hd e => ?_
        have e := nameL_inj e
        rcases Nat.lt_trichotomy a d with h | h | h
        · exact absurd e (xi a d h (by omega))
        · exact h
        · exact absurd e.symm (xi d a h (by omega))
      · obtain ⟨j, _, rfl⟩ := List.mem_map.mp hn
        rw [mkS_len]
        unfold nameL
        simp only [List.length_append, List.length_take, List.length_drop, List.length_singleton]
        omega
      · obtain ⟨j, _, rfl⟩ := List.mem_map.mp hn
        unfold EndQ
        show List.getLast? (b.take i ++ [xs j] ++ b.drop i ++ [113]) = _
        rw [List.getLast?_append]
        rfl
theorem ok_names (T : TCells K mg) : FnAt P w K mg base CX0 "_law_names" 3 ["_law_cell", "_law_many"] spNames :=
  (ok_namesQ T).imp fun _ _ _ _ ⟨c, m, e, hm, k⟩ => ⟨c, m, e, hm, fun H' p ns s n h _ => k H' p ns s n h⟩
end

--%% MC
theorem depth_size (c : Cond) : c.depth ≤ c.size := by
  rw [Cond.depth_kids, Cond.size_kids]
  have := Cond.depths_le c.kids
  omega
/-! ## slices of tuples -/
section
variable {K : PySem.W.Frag} {H : Hp} {t : Addr} {xs : List V} {Q : VK}
theorem slT_to {v : Int} (n : Nat) (hv : v = (n : Int)) (h : H t = some (.tup xs)) (hn : n < xs.length) (k : ∀ p, H p = none → Q (.ref p) (upd H p (.tup (xs.take n)))) : rSlT K (.ref t) none (some v) H Q := by
  subst hv
  refine ⟨t, xs, rfl, SqT.of h, fun e => ?_, fun p np => by rw [cutV_to]; exact k p np⟩
  rw [HT.sIx_nat] at e
  omega
theorem slT_from {v : Int} (n : Nat) (hv : v = (n : Int)) (h : H t = some (.tup xs)) (hn : 1 ≤ n) (hx : 1 ≤ xs.length) (k : ∀ p, H p = none → Q (.ref p) (upd H p (.tup (xs.drop n)))) : rSlT K (.ref t) (some v) none H Q := by
  subst hv
  refine ⟨t, xs, rfl, SqT.of h, fun e => ?_, fun p np => by rw [cutV_from]; exact k p np⟩
  rw [HT.sIx_nat] at e
  omega
theorem slT_mid {v u : Int} (i n : Nat) (hv : v = (i : Int)) (hu : u = ((i + n : Nat) : Int)) (h : H t = some (.tup xs)) (hi : 1 ≤ i) (hn : i + n ≤ xs.length) (hx : 1 ≤ xs.length) (k : ∀ p, H p = none → Q (.ref p) (upd H p (.tup ((xs.drop i).take n)))) : rSlT K (.ref t) (some v) (some u) H Q := by
  subst hv hu
  have e2 : cutV xs (some (i : Int)) (some ((i + n : Nat) : Int)) = (xs.drop i).take n := by
    unfold cutV
    rw [HT.sIx_nat, HT.sIx_nat, Nat.min_eq_left hn, Nat.min_eq_left (by omega : i ≤ xs.length), Nat.add_sub_cancel_left]
  refine ⟨t, xs, rfl, SqT.of h, fun e => ?_, fun p np => by rw [e2]; exact k p np⟩
  rw [HT.sIx_nat] at e
  omega
end

mutual
theorem Cond.ok_cond2 : ∀ {c : Cond}, c.ok = true → c.cond2 = true
  | .fixed _, _ => rfl
  | .contact _, _ => rfl
  | .not c, h => by
    rw [Cond.ok] at h
    rw [Cond.cond2]
    exact Cond.ok_cond2 h
  | .grp _ cs, h => by
    rw [Cond.ok, Bool.and_eq_true, decide_eq_true_eq] at h
    rw [Cond.cond2, Cond.oks_cond2 h.2, decide_eq_true (by omega)]
    rfl
theorem Cond.oks_cond2 : ∀ {cs : List Cond}, Cond.oks cs = true → Cond.cond2s cs = true
  | [], _ => rfl
  | c :: cs, h => by
    rw [Cond.oks, Bool.and_eq_true] at h
    rw [Cond.cond2s, Cond.ok_cond2 h.1, Cond.oks_cond2 h.2]
    rfl
end
theorem wgt_pos {c : Cond} (h : c.ok = true) : 1 ≤ c.wgt := by
  have := Cond.cost_wgt 1 c (Cond.ok_cond2 h)
  omega

/-! ## the law's rows and holds (sheets) -/
abbrev s__law_holds : Stmt := top 62
theorem sc__law_holds : FnScope ["_law_told", "_law_row_here", "_law_truths_here", "_law_inner"] ["_law_told", "_law_row_here"] (defScope s__law_holds) := ⟨rfl, rfl, rfl, by decide +kernel, rfl, by decide +kernel, by decide +kernel⟩
abbrev s__law_row : Stmt := top 63
theorem sc__law_row : FnScope ["_law_names_here", "_law_number", "_law_row_here", "_law_name"] ["_law_names_here", "_law_number"] (defScope s__law_row) := ⟨rfl, rfl, rfl, by decide +kernel, rfl, by decide +kernel, by decide +kernel⟩
structure TLHolds (K : PySem.W.Frag) (mg : Str → Option Value) : Prop where
  d_lholds : DefAt K mg "_law_holds" s__law_holds ["_law_told", "_law_row_here"]
  d_row : DefAt K mg "_law_row" s__law_row ["_law_names_here", "_law_number"]
def rowL : List Str → Nat → List (Str × Bool)
  | [], _ => []
  | n :: r, k => (n, k % 2 == 1) :: rowL r (k / 2)
theorem rowL_keys : ∀ (l : List Str) (k : Nat), keysL (rowL l k) = l
  | [], _ => rfl
  | n :: r, k => by rw [rowL]; unfold keysL; rw [List.map_cons]; congr 1; exact rowL_keys r (k / 2)
theorem rowL_snoc : ∀ (l : List Str) (n : Str) (k : Nat), rowL (l ++ [n]) k = rowL l k ++ [(n, k / 2 ^ l.length % 2 == 1)]
  | [], n, k => by simp [rowL]
  | x :: r, n, k => by
    rw [List.cons_append, rowL, rowL, rowL_snoc r n (k / 2), List.length_cons, Nat.div_div_eq_div_mul, Nat.pow_succ']
    rfl
def bitN (k i : Nat) : Bool := k / 2 ^ i % 2 == 1
theorem rowL_get : ∀ (l : List Str) (n : Str) (k : Nat), n ∈ l → getL (rowL l k) n = some (bitN k (ixOf l n))
  | x :: r, n, k, h => by
    rw [rowL]
    unfold getL ixOf
    rw [List.find?_cons]
    by_cases e : x = n
    · rw [if_pos e]
      simp [e, bitN]
    · rw [if_neg e]
      have h' : n ∈ r := by
        rcases List.mem_cons.mp h with q | q
        · exact absurd q.symm e
        · exact q
      have := rowL_get r n (k / 2) h'
      unfold getL at this
      simp only [decide_eq_false e]
      rw [this]
      unfold bitN
      rw [Nat.div_div_eq_div_mul, Nat.pow_succ']
def imL (u : List (Str × Bool)) : Im := fun n => (getL u n).getD false
mutual
theorem Cond.holds_congr {l : List Str} {f g : Im} (h : ∀ n ∈ l, f n = g n) : ∀ {c : Cond}, c.within l = true → c.holds f = c.holds g
  | .fixed _, _ => rfl
  | .contact n, w => by
    rw [Cond.within] at w
    exact h n (of_decide_eq_true w)
  | .not c, w => by
    rw [Cond.within] at w
    rw [Cond.holds, Cond.holds, Cond.holds_congr h w]
  | .grp s cs, w => by
    rw [Cond.within] at w
    obtain ⟨h1, h2⟩ := Cond.holds_congrs h w
    cases s
    · rw [Cond.holds, Cond.holds, h2]
    · rw [Cond.holds, Cond.holds, h1]
theorem Cond.holds_congrs {l : List Str} {f g : Im} (h : ∀ n ∈ l, f n = g n) : ∀ {cs : List Cond}, Cond.withins l cs = true → Cond.alls f cs = Cond.alls g cs ∧ Cond.anys f cs = Cond.anys g cs
  | [], _ => ⟨rfl, rfl⟩
  | c :: cs, w => by
    rw [Cond.withins, Bool.and_eq_true] at w
    obtain ⟨h1, h2⟩ := Cond.holds_congrs h w.2
    rw [Cond.alls, Cond.alls, Cond.anys, Cond.anys, Cond.holds_congr h w.1, h1, h2]
    exact ⟨rfl, rfl⟩
end
theorem holds_row {l : List Str} {c : Cond} (w : c.within l = true) (k : Nat) : c.holds (imL (rowL l k)) = c.holds (imB l (bitN k)) :=
  Cond.holds_congr (fun n hn => by unfold imL; rw [rowL_get l n k hn]; rfl) w
/-- each row is that of a number -/
theorem rows_all : ∀ (n : Nat) (b : Nat → Bool), ∃ k, k < 2 ^ n ∧ ∀ i, i < n → bitN k i = b i
  | 0, b => ⟨0, by decide, fun i hi => absurd hi (by omega)⟩
  | n + 1, b => by
    obtain ⟨k, hk, h⟩ := rows_all n fun i => b (i + 1)
    refine ⟨2 * k + (if b 0 then 1 else 0), by rw [Nat.pow_succ]; split <;> omega, fun i hi => ?_⟩
    cases i with
    | zero =>
      unfold bitN
      rw [Nat.pow_zero, Nat.div_one]
      cases b 0
      · rw [if_neg Bool.false_ne_true]
        have : (2 * k + 0) % 2 = 0 := by omega
        rw [this]; rfl
      · rw [if_pos rfl]
        have : (2 * k + 1) % 2 = 1 := by omega
        rw [this]; rfl
    | succ i =>
      rw [← h i (by omega)]
      unfold bitN
      rw [Nat.pow_succ', ← Nat.div_div_eq_div_mul]
      have : (2 * k + (if b 0 then 1 else 0)) / 2 = k := by split <;> omega
      rw [this]
theorem holds_all {l : List Str} {c : Cond} (w : c.within l = true) (b : Nat → Bool) : ∃ k, k < 2 ^ l.length ∧ c.holds (imB l b) = c.holds (imL (rowL l k)) := by
  obtain ⟨k, hk, h⟩ := rows_all l.length b
  refine ⟨k, hk, ?_⟩
  rw [holds_row w]
  exact Cond.holds_congr (fun n hn => (h _ (ixOf_lt hn)).symm) w
theorem k_fx (c : Cond) : decide (V.str (kindS c) = V.str "fixed") = (match c with | .fixed _ => true | _ => false) := by
  cases c with
  | fixed b => rfl
  | contact b => exact decide_eq_false (by show ¬ (V.str (Str.ofString "contact") = V.str (Str.ofString "fixed")); decide +kernel)
  | not b => exact decide_eq_false (by show ¬ (V.str (Str.ofString "not") = V.str (Str.ofString "fixed")); decide +kernel)
  | grp s cs =>
    cases s
    · exact decide_eq_false (by show ¬ (V.str (Str.ofString "or") = V.str (Str.ofString "fixed")); decide +kernel)
    · exact decide_eq_false (by show ¬ (V.str (Str.ofString "and") = V.str (Str.ofString "fixed")); decide +kernel)
theorem k_ct (c : Cond) : decide (V.str (kindS c) = V.str "contact") = (match c with | .contact _ => true | _ => false) := by
  cases c with
  | fixed b => exact decide_eq_false (by show ¬ (V.str (Str.ofString "fixed") = V.str (Str.ofString "contact")); decide +kernel)
  | contact b => rfl
  | not b => exact decide_eq_false (by show ¬ (V.str (Str.ofString "not") = V.str (Str.ofString "contact")); decide +kernel)
  | grp s cs =>
    cases s
    · exact decide_eq_false (by show ¬ (V.str (Str.ofString "or") = V.str (Str.ofString "contact")); decide +kernel)
    · exact decide_eq_false (by show ¬ (V.str (Str.ofString "and") = V.str (Str.ofString "contact")); decide +kernel)
theorem k_tn (c : Cond) : decide (V.str (kindS c) = V.str "not") = (match c with | .not _ => true | _ => false) := by
  cases c with
  | fixed b => exact decide_eq_false (by show ¬ (V.str (Str.ofString "fixed") = V.str (Str.ofString "not")); decide +kernel)
  | contact b => exact decide_eq_false (by show ¬ (V.str (Str.ofString "contact") = V.str (Str.ofString "not")); decide +kernel)
  | not b => rfl
  | grp s cs =>
    cases s
    · exact decide_eq_false (by show ¬ (V.str (Str.ofString "or") = V.str (Str.ofString "not")); decide +kernel)
    · exact decide_eq_false (by show ¬ (V.str (Str.ofString "and") = V.str (Str.ofString "not")); decide +kernel)
theorem k_an (s : Bool) : decide (V.str (word s) = V.str "and") = s := by
  cases s
  · exact decide_eq_false (by show ¬ (V.str (Str.ofString "or") = V.str (Str.ofString "and")); decide +kernel)
  · rfl
theorem no_false (f : Im) : ∀ cs : List Cond, (!inV (.bl false) (cs.map fun c => V.bl (c.holds f))) = Cond.alls f cs
  | [] => rfl
  | c :: cs => by
    have ih := no_false f cs
    unfold inV at ih ⊢
    rw [List.map_cons, List.any_cons, Bool.not_or, ih, Cond.alls]
    cases c.holds f <;> simp [eqV]
theorem some_true (f : Im) : ∀ cs : List Cond, inV (.bl true) (cs.map fun c => V.bl (c.holds f)) = Cond.anys f cs
  | [] => rfl
  | c :: cs => by
    have ih := some_true f cs
    unfold inV at ih ⊢
    rw [List.map_cons, List.any_cons, ih, Cond.anys]
    cases c.holds f <;> simp [eqV]
section
variable {P : Program} {w : World} {K : PySem.W.Frag} {mg : Str → Option Value} {base : Heap}
def spLHolds (n : Nat) : Sp := fun vs H Q _ => ∃ (v : V) (d : Addr) (c : Cond) (u : List (Str × Bool)), vs = [v, .ref d] ∧ IsT H v c ∧ H d = some (.dK (dL V.bl u)) ∧ c.within (keysL u) = true ∧ c.depth ≤ n ∧ c.size ≤ 1000 ∧ ∀ H' : Hp, Same H H' → Q (.bl (c.holds (imL u))) H'
theorem ok_lholds (T : TLHolds K mg) : ∀ n : Nat, FnAt P w K mg base CX0 "_law_holds" (n + 1) ["_law_told", "_law_row_here"] (spLHolds n)
  | 0 => by
    refine fnAt_ok T.d_lholds sc__law_holds (fun vs H Q E h => ?_) (fun f cdv A outer s H vs Q E hr h => ?_)
    · obtain ⟨v, d, c, u0, rfl, _⟩ := h; rfl
    · obtain ⟨v, d, c, u0, rfl, p, _, _, hd, _⟩ := h
      exact absurd c.depth_pos (by omega)
  | n + 1 => by
    have G__law_holds := ok_lholds T n
    refine fnAt_ok T.d_lholds sc__law_holds (fun vs H Q E h => ?_) (fun f cdv A outer s H vs Q E hr h => ?_)
    · obtain ⟨v, d, c, u0, rfl, _⟩ := h; rfl
    · obtain ⟨v, d, c, u0, rfl, p, hD, hg, hd, hz, k⟩ := h
      have hu := hu_of hr
      refine ⟨_, (pss_cons (ps_if (pt_cmpR op_eq (pe_ix ix_tup (pv 0) pe_int (fun _ _ => rfl)) pe_str (nomark _)) (pss_one (ps_ret (pe_ix ix_tup (pv 0) pe_int (fun _ _ => rfl)))) pss_nil)
        (pss_cons (ps_if (pt_cmpR op_eq (pe_ix ix_tup (pv 0) pe_int (fun _ _ => rfl)) pe_str (nomark _)) (pss_one (ps_ret (pe_dget (by exact hu) (pv 1) (pe_ix ix_tup (pv 0) pe_int (fun _ _ => rfl)) (fun _ _ => rfl)))) pss_nil)
        (pss_cons (ps_setLc (i := 2) (own := [("_law_inner", 3)]) (g := gName 3) (tt := tYes) rfl sc__law_holds.nd rfl rfl (sw_true rfl rfl rfl (by decide +kernel)) (pi_tup (pe_slice sl_tup (pv 0) (po_some pe_int) po_none)) (blkOk_by (own := [("_law_inner", 3)]) (N := ["_law_told", "_law_row_here", "_law_truths_here", "_law_inner"]) (sc := defScope s__law_holds) (by decide +kernel)) (fun _ _ _ _ _ => pg_name (i := 3) sc__law_holds.nd rfl (Or.inl rfl)) (fun _ _ _ _ _ => pts_nil) (fun _ _ _ _ _ => (pe_callF G__law_holds hr pass0 (pa_cons (pv 3) (pa_cons (pv 1) pa_nil)) (Nat.le_refl _))))
        (pss_cons (ps_if (pt_cmpR op_eq (pe_ix ix_tup (pv 0) pe_int (fun _ _ => rfl)) pe_str (nomark _)) (pss_one (ps_ret (pe_not (pe_ix ix_list (pv 2) pe_int (fun _ _ => rfl))))) pss_nil)
        (pss_cons (ps_if (pt_cmpR op_eq (pe_ix ix_tup (pv 0) pe_int (fun _ _ => rfl)) pe_str (nomark _)) (pss_one (ps_ret (pe_cmpR op_notIn_seq pe_bl (pv 2) rfl))) pss_nil)
        (pss_one (ps_ret (pe_cmpR op_in_seq pe_bl (pv 2) rfl)))))))), ?_⟩
      walk_at "rd"
      obtain ⟨t, _, rfl, _⟩ := p.ref
      obtain ⟨rest, hsh, hki⟩ := p.shape
      refine ⟨t, _, 0, .str (kindS c), rfl, rfl, SqT.of hsh, atI_int (by decide) rfl, rfl, ?_⟩
      rw [k_fx]
      cases c with
      | fixed b =>
        cases p with
        | fixed h0 => exact iteT ⟨t, _, 1, .bl b, rfl, rfl, SqT.of h0, atI_int (by decide) rfl, k _ (Same.refl _)⟩
      | contact m =>
        cases p with
        | contact h0 =>
          refine iteF ⟨t, _, 0, .str (kindS (.contact m)), rfl, rfl, SqT.of hsh, atI_int (by decide) rfl, rfl, ?_⟩
          rw [k_ct]
          have k0 := k H (Same.refl _)
          rw [Cond.within] at hg
          obtain ⟨b, hb⟩ := getL_mem.mpr (of_decide_eq_true hg)
          have e : (Cond.contact m).holds (imL u0) = b := by rw [Cond.holds]; unfold imL; rw [hb]; rfl
          rw [e] at k0
          exact iteT ⟨_, rfl, _, rfl, t, _, 1, .str m, rfl, rfl, SqT.of h0, atI_int (by decide) rfl, d, .bl b, rfl, .inl ⟨_, .inr m, .inl hD, rfl, by rw [dL_get, hb]; rfl⟩, k0⟩
      | not c =>
        refine iteF ⟨t, _, 0, .str (kindS (.not c)), rfl, rfl, SqT.of hsh, atI_int (by decide) rfl, rfl, ?_⟩
        rw [k_ct]
        cases p with
        | @not _ u _ h0 pu =>
          rw [Cond.depth] at hd
          rw [Cond.size] at hz
          refine iteF ⟨_, rfl, 1, rfl, t, _, rfl, SqT.of h0, ?_, fun t1 nt1 => ?_⟩
          · rintro ⟨h1, _⟩
            rw [show (1 : Int) = ((1 : Nat) : Int) from rfl, HT.sIx_nat, List.length_cons] at h1
            omega
          rw [Cond.within] at hg
          have hg1 : Cond.withins (keysL u0) [c] = true := by rw [Cond.withins, hg]; rfl
          have e2 : cutV (.str "not" :: [u]) (some 1) none = [u] := by
            rw [show (1 : Int) = ((1 : Nat) : Int) from rfl, cutV_from]
            rfl
          rw [e2]
          have s1 := Same.new (o := .tup [u]) nt1
          refine ⟨t1, rfl, ⟨_, SqT.of upd_same⟩, fun D nD => lc_tup (K := K) (a := t1) (xs := [u]) (fun i H' => Same (upd H t1 (.tup [u])) H' ∧ H' D = some (.lst (([c].map fun c => V.bl (c.holds (imL u0))).take i)))
            ⟨Same.new nD, upd_same⟩ (fun i H' _ q => SqT.of (q.1 _ _ upd_same)) ?_ ?_⟩
          · rintro i y H2 hy ⟨q1, q2⟩
            obtain ⟨c', hc', p'⟩ := ((show IsTs H [u] [c] from .cons pu .nil).mono (T := fun _ => False) (Same.imm (s1.trans q1))).at hy
            have hm := List.mem_of_getElem? hc'
            have h1 := Cond.depth_mem hm
            have h2 := Cond.size_mem hm
            have h3 := Cond.withins_mem hg1 hm
            refine ⟨rfl, _, rfl, _, rfl, y, d, c', u0, rfl, p', q1 _ _ (s1 _ _ hD), h3, by simp [Cond.depths] at h1; omega, by simp [Cond.sizes] at h2; omega, fun H3 s3 => ?_⟩
            exact lc_push (q1.trans s3) nD (s3 _ _ q2) (by rw [List.getElem?_map, hc']; rfl) (by simp)
          · rintro H2 ⟨q1, q2⟩
            rw [List.take_of_length_le (by simp)] at q2
            refine ⟨t, _, 0, .str (kindS (.not c)), rfl, rfl, SqT.of (q1 _ _ (s1 _ _ h0)), atI_int (by decide) rfl, rfl, ?_⟩
            rw [k_tn]
            exact iteT ⟨D, _, 0, .bl (c.holds (imL u0)), rfl, rfl, SqL.of q2, rfl, _, rfl, k _ (s1.trans q1)⟩
      | grp s cs =>
        refine iteF ⟨t, _, 0, .str (kindS (.grp s cs)), rfl, rfl, SqT.of hsh, atI_int (by decide) rfl, rfl, ?_⟩
        rw [k_ct]
        cases p with
        | @grp _ vs _ _ h0 ps =>
          rw [Cond.depth] at hd
          rw [Cond.size] at hz
          have hl := ps.length
          have hz2 := Cond.len_sizes cs
          refine iteF ⟨_, rfl, 1, rfl, t, _, rfl, SqT.of h0, ?_, fun t1 nt1 => ?_⟩
          · rintro ⟨h1, _⟩
            rw [show (1 : Int) = ((1 : Nat) : Int) from rfl, HT.sIx_nat, List.length_cons] at h1
            omega
          rw [Cond.within] at hg
          have e2 : cutV (.str (word s) :: vs) (some 1) none = vs := by
            rw [show (1 : Int) = ((1 : Nat) : Int) from rfl, cutV_from]
            rfl
          rw [e2]
          have s1 := Same.new (o := .tup vs) nt1
          refine ⟨t1, rfl, ⟨_, SqT.of upd_same⟩, fun D nD => lc_tup (K := K) (a := t1) (xs := vs) (fun i H' => Same (upd H t1 (.tup vs)) H' ∧ H' D = some (.lst ((cs.map fun c => V.bl (c.holds (imL u0))).take i)))
            ⟨Same.new nD, upd_same⟩ (fun i H' _ q => SqT.of (q.1 _ _ upd_same)) ?_ ?_⟩
          · rintro i y H2 hy ⟨q1, q2⟩
            obtain ⟨c', hc', p'⟩ := (ps.mono (T := fun _ => False) (Same.imm (s1.trans q1))).at hy
            have hm := List.mem_of_getElem? hc'
            have h1 := Cond.depth_mem hm
            have h2 := Cond.size_mem hm
            have h3 := Cond.withins_mem hg hm
            refine ⟨rfl, _, rfl, _, rfl, y, d, c', u0, rfl, p', q1 _ _ (s1 _ _ hD), h3, by omega, by omega, fun H3 s3 => ?_⟩
            exact lc_push (q1.trans s3) nD (s3 _ _ q2) (by rw [List.getElem?_map, hc']; rfl) (by rw [List.length_map]; omega)
          · rintro H2 ⟨q1, q2⟩
            rw [List.take_of_length_le (by simp; omega)] at q2
            refine ⟨t, _, 0, .str (kindS (.grp s cs)), rfl, rfl, SqT.of (q1 _ _ (s1 _ _ h0)), atI_int (by decide) rfl, rfl, ?_⟩
            rw [k_tn]
            have fl : (cs.map fun c => V.bl (c.holds (imL u0))).all flatV = true := by simp [List.all_map, flatV]
            refine iteF ⟨t, _, 0, .str (word s), rfl, rfl, SqT.of (q1 _ _ (s1 _ _ h0)), atI_int (by decide) rfl, rfl, ?_⟩
            rw [k_an]
            have k0 := k _ (s1.trans q1)
            cases s with
            | true =>
              refine iteT ⟨D, _, rfl, .inl (SqL.of q2), rfl, fl, ?_⟩
              rw [if_pos rfl, no_false]
              rw [Cond.holds] at k0
              exact k0
            | false =>
              refine iteF ⟨D, _, rfl, .inl (SqL.of q2), rfl, fl, ?_⟩
              rw [if_neg Bool.false_ne_true, some_true]
              rw [Cond.holds] at k0
              exact k0
def spRow : Sp := fun vs H Q _ => ∃ (q : Addr) (k m : Nat) (l : List Str), vs = [.ref q, .int k] ∧ NamesU H q l m ∧ m ≤ 1000 ∧ ∀ (H' : Hp) (d : Addr), Same H H' → H d = none → H' d = some (.dK (dL V.bl (rowL l k))) → Q (.ref d) H'
theorem ok_row (T : TLHolds K mg) : FnAt P w K mg base CX0 "_law_row" 1 ["_law_names_here", "_law_number"] spRow := by
  refine fnAt_ok T.d_row sc__law_row (fun vs H Q E h => ?_) (fun f cdv A outer s H vs Q E hr h => ?_)
  · obtain ⟨q, k, m, l, rfl, _⟩ := h; rfl
  · obtain ⟨q, k, m, l, rfl, hn, hm, kk⟩ := h
    have hu := hu_of hr
    refine ⟨_, (pss_cons (ps_set (i := 2) sc__law_row.nd rfl (by first | exact Or.inl rfl | exact Or.inr rfl) pe_dnewK)
        (pss_cons (ps_for PassesOwn.never rfl (pi_list (pv 0)) (pg_name (i := 3) sc__law_row.nd rfl (by first | exact Or.inl rfl | exact Or.inr rfl)) (pss_cons (ps_dput hu (pv 2) (pv 3) (pe_cmpR op_eq (pe_op op_mod (pv 1) pe_int) pe_int (nomark _)) rfl)
          (pss_one (ps_set (i := 1) sc__law_row.nd rfl (by first | exact Or.inl rfl | exact Or.inr rfl) (pe_op op_fdiv (pv 1) pe_int)))))
        (pss_one (ps_ret (pv 2))))), ?_⟩
    walk_at "rd"
    refine fun d nd => ?_
    have s1 : Same H (upd H d (.dK [])) := Same.new nd
    have hd1 : upd H d (.dK []) d = some (.dK []) := upd_same
    show tFor _ _ _ _ _ (upd H d (.dK []))
    generalize upd H d (.dK []) = H1 at s1 hd1 ⊢
    have hq1 := s1 _ _ hn.at_
    have hnl := hn.len
    have qd : q ≠ d := ne_of hq1 hd1 (by intro h; cases h)
    refine ⟨_, rfl, q, rfl, ⟨_, SqL.of hq1⟩, for_list (K := K) (a := q) (xs := l.map V.str) (fun i σ H' => ∃ v3 : Option V, σ = [some (.ref q), some (.int ((k / 2 ^ i : Nat) : Int)), some (.ref d), v3] ∧ Same H H' ∧ H' q = some (.lst (l.map V.str)) ∧ H' d = some (.dK (dL V.bl (rowL (l.take i) k)))) ⟨none, by simp, s1, hq1, hd1⟩ (fun i σ H' _ ⟨_, _, _, e, _⟩ => SqL.of e) ?_ ?_⟩
    · rintro i y σ H2 hy ⟨v3, rfl, s2, hq2, hd2⟩
      rw [List.getElem?_map] at hy
      obtain ⟨n, hi, rfl⟩ := Option.map_eq_some_iff.mp hy
      walk_at "rd"
      have hil := (List.getElem?_eq_some_iff.mp hi).1
      have hlk : (rowL (l.take i) k).length = i := by
        have := congrArg List.length (rowL_keys (l.take i) k)
        rw [len_keys, List.length_take] at this
        omega
      refine ⟨_, rfl, _, _, rfl, rfl, (by show (0 : Int) < 2; decide), rfl, _, rfl, _, rfl, d, _, rfl, DPut.k (k := .inr n) hd2 (by rw [dL_len, hlk, sizeLine_eq]; omega), ?_⟩
      have e1 : decide (V.int (((k / 2 ^ i : Nat) : Int) % 2) = V.int 1) = (k / 2 ^ i % 2 == 1) := by
        rw [Bool.eq_iff_iff, decide_eq_true_eq]
        simp only [V.int.injEq, beq_iff_eq]
        omega
      have hnew : n ∉ keysL (rowL (l.take i) k) := by
        rw [rowL_keys]
        intro hm
        have hsp : l.take i ++ l.drop i = l := List.take_append_drop i l
        have nd := hn.nd
        obtain ⟨hi1, hg⟩ := List.getElem?_eq_some_iff.mp hi
        rw [← hsp, List.nodup_append] at nd
        exact nd.2.2 n hm n (by rw [List.drop_eq_getElem_cons hi1, hg]; exact List.mem_cons_self) rfl
      rw [e1, dL_put, keys_new hnew]
      walk_at "rd"
      refine ⟨_, ⟨?_, rfl⟩, Same.mut s2 nd, by rw [upd_ne qd]; exact hq2, ?_⟩
      · rw [Nat.pow_succ, ← Nat.div_div_eq_div_mul]
        rfl
      · rw [upd_same, List.take_succ, hi]
        show _ = some (HO.dK (dL V.bl (rowL (l.take i ++ [n]) k)))
        rw [rowL_snoc, List.length_take, Nat.min_eq_left (by omega)]
    · rintro σ H2 ⟨v3, rfl, s2, hq2, hd2⟩
      rw [List.length_map, List.take_length] at hd2
      walk_at "rd"
      exact kk H2 d s2 nd hd2
end

--%% MD
/-! ## sheets: turned -/
abbrev s_Sheet_turned : Stmt := inClass (top 32) 13
theorem sc_Sheet_turned : FnScope ["self", "node", "many"] ["self", "node"] (defScope s_Sheet_turned) := ⟨rfl, rfl, rfl, by decide +kernel, rfl, by decide +kernel, by decide +kernel⟩
structure TTurn (K : PySem.W.Frag) (mg : Str → Option Value) (cl : Cl) (xc : Xc) (cs : Addr) : Prop where
  sh : TSh K mg cl xc cs
  m_turned : MethAt K cs "turned" "Sheet.turned" s_Sheet_turned ["self", "node"]
  z_len : mg "len" = none
section
variable {P : Program} {w : World} {K : PySem.W.Frag} {mg : Str → Option Value} {base : Heap} {cl : Cl} {xc : Xc} {cs : Addr}
def spTurned (cs : Addr) : Sp := fun vs H Q _ => ∃ (x dx tn ln dn : Addr) (names : List Str) (ns ns' : List Sh.Nd) (a r : Nat), vs = [.ref x, .int a] ∧ ShO cs H x dx tn ln dn names ns ∧ Sh.Wf names.length ns ∧ names.length ≤ 60 ∧ a < ns.length + 2 ∧
  (∃ kn', Sh.opp 61 ns (fun _ => none) a = some (r, ns', kn')) ∧ ns'.length ≤ 2000 ∧ ∀ H', K3 ln dn dn H H' → ShO cs H' x dx tn ln dn names ns' → Q (.int r) H'
theorem disp_turned (T : TTurn K mg cl xc cs) : DispAt P w K mg base CX0 (fun C => C = cs) "turned" 65 ["self", "node"] (fun _ => spTurned cs) := by
  have GX_opposite : DispAt P w K mg base (L2.CX P w) (fun C => C = cs) "opposite" 64 ["self", "node", "known"] (fun _ => spOpp cs xc 61) := disp_opp T.sh.dr.opp 61
  have G_need := (disp_need (P := P) (w := w) (base := base) T.sh).calm
  refine ⟨fun C hC => ?_⟩
  subst hC
  refine methAt_ok T.sh.dr.opp.sh.c_Sheet.cl T.m_turned sc_Sheet_turned (fun vs H Q E h => ?_) (fun fa cdv A outer st H vs Q E hr h => ?_)
  · obtain ⟨x, dx, tn, ln, dn, names, ns, ns', a, r, rfl, _⟩ := h; rfl
  · obtain ⟨x, dx, tn, ln, dn, names, ns, ns', a, r, rfl, s, wf, hl, ha, ⟨kn', hj⟩, hle, q⟩ := h
    have hu := hu_of hr
    refine ⟨_, (pss_cons (ps_expr (pe_methD G_need hr pass0 (pv 0) (pa_cons (pv 1) pa_nil)))
        (pss_cons (ps_set (i := 2) sc_Sheet_turned.nd rfl (by first | exact Or.inl rfl | exact Or.inr rfl) (pe_callB call_len_seq (by rfl) T.z_len PySem.boot_len (pa_cons (pe_fld (pv 0) rfl) pa_nil)))
        (pss_one (ps_try_calm rfl (fun W pn xe tk _ => (pss_one (ps_ret (pe_methT GX_opposite hr tk (pv 0) (pa_cons (pv 1) (pa_cons pe_dnewK pa_nil)))))))))), ?_⟩
    walk_at "rd"
    obtain ⟨vs, h1, h2⟩ := s.hl
    refine ⟨_, rfl, x, C, dx, _, rfl, s.ob, rfl, lkSn (by decide +kernel), _, rfl, x, dx, tn, ln, dn, names, ns, (a : Int), rfl, s, fun _ => ?_, (fun h => absurd ⟨by omega, by omega⟩ h)⟩
    refine ⟨_, rfl, x, _, dx, _, _, rfl, s.ob, T.sh.dr.opp.sh.c_Sheet.cl, T.sh.dr.opp.sh.n_nodes, lkS2, ln, rfl, _, .inl (SqL.of h1), ?_⟩
    refine ⟨_, rfl, x, C, dx, _, rfl, s.ob, rfl, lkSn (by decide +kernel), _, rfl, fun kd nkd => ?_⟩
    refine ⟨x, dx, tn, ln, dn, kd, names, ns, ns', fun _ => none, kn', [], a, r, rfl, s.keep (Same.new nkd), wf, Sh.Kn1Ok.nil, upd_same, Kn1V.nil, ha, by omega, hj, fun _ H3 kvs3 k3 s3 _ _ => ?_, fun g => absurd g (by omega)⟩
    exact q H3 (K3.drop (Same.new nkd) k3 nkd) s3
end

/-! ## sheets, step by step: what a node tells -/
def SemN (N : List Sh.Nd) (r : Nat) (g : (Nat → Bool) → Bool) : Prop := r < N.length + 2 ∧ ∀ b, Sh.ev N r b = g b
def ExtN (N M : List Sh.Nd) : Prop := ∃ m, M = N ++ m
theorem ExtN.refl (N : List Sh.Nd) : ExtN N N := ⟨[], (List.append_nil N).symm⟩
theorem ExtN.trans {N M L : List Sh.Nd} : ExtN N M → ExtN M L → ExtN N L
  | ⟨m, e⟩, ⟨k, f⟩ => ⟨m ++ k, by rw [f, e, List.append_assoc]⟩
theorem SemN.more {n : Nat} {N M : List Sh.Nd} {r : Nat} {g : (Nat → Bool) → Bool} (h : SemN N r g) (w : Sh.Wf n N) (w2 : Sh.Wf n M) (x : ExtN N M) : SemN M r g := by
  obtain ⟨m, rfl⟩ := x
  exact ⟨by rw [List.length_append]; have := h.1; omega, fun b => by rw [w.ev_app w2 r h.1, h.2]⟩
theorem SemN.one {n : Nat} {N : List Sh.Nd} {r s : Nat} {g : (Nat → Bool) → Bool} (w : Sh.Wf n N) (h : SemN N r g) (k : SemN N s g) : r = s := w.canon h.1 k.1 fun b => by rw [h.2, k.2]
theorem join_step {n stop : Nat} {N : List Sh.Nd} {a c : Nat} {g h : (Nat → Bool) → Bool} (hn : n ≤ 60) (hs : stop < 2) (w : Sh.Wf n N) (ha : SemN N a g) (hc : SemN N c h) :
    ∃ r M, (∃ kn, Sh.join n stop 61 N (fun _ _ => none) a c = some (r, M, kn)) ∧ Sh.Wf n M ∧ ExtN N M ∧ SemN M r (fun b => Sh.op2 stop (g b) (h b)) ∧ M.length ≤ N.length + (2 ^ n - 1) ∧ ∀ r0, SemN N r0 (fun b => Sh.op2 stop (g b) (h b)) → M = N ∧ r = r0 := by
  obtain ⟨r, m, kn, e, w2, _, h1, h2, _, h4, h5⟩ := Sh.Wf.join hs 61 N (fun _ _ => none) a c w Sh.KnOk.nil ha.1 hc.1 (by omega)
  refine ⟨r, N ++ m, ⟨kn, e⟩, w2, ⟨m, rfl⟩, ⟨h1, fun b => by rw [h2, ha.2, hc.2]⟩, ?_, fun r0 h0 => ?_⟩
  · have : 2 ^ (n - min (Sh.pl n N a) (Sh.pl n N c)) ≤ 2 ^ n := Nat.pow_le_pow_right (by omega) (by omega)
    rw [List.length_append]
    omega
  · obtain ⟨rfl, rfl⟩ := Sh.last_old w w2 h4 h1 h0.1 fun b => by rw [h2, h0.2, ha.2, hc.2]
    exact ⟨List.append_nil N, rfl⟩
theorem opp_step {n : Nat} {N : List Sh.Nd} {a : Nat} {g : (Nat → Bool) → Bool} (hn : n ≤ 60) (w : Sh.Wf n N) (ha : SemN N a g) :
    ∃ r M, (∃ kn, Sh.opp 61 N (fun _ => none) a = some (r, M, kn)) ∧ Sh.Wf n M ∧ ExtN N M ∧ SemN M r (fun b => !g b) ∧ M.length ≤ N.length + (2 ^ n - 1) ∧ ∀ r0, SemN N r0 (fun b => !g b) → M = N ∧ r = r0 := by
  obtain ⟨r, m, kn, e, w2, _, h1, h2, _, h4, h5⟩ := Sh.Wf.opp (n := n) 61 N (fun _ => none) a w Sh.Kn1Ok.nil ha.1 (by omega)
  refine ⟨r, N ++ m, ⟨kn, e⟩, w2, ⟨m, rfl⟩, ⟨h1, fun b => by rw [h2, ha.2]⟩, ?_, fun r0 h0 => ?_⟩
  · have : 2 ^ (n - Sh.pl n N a) ≤ 2 ^ n := Nat.pow_le_pow_right (by omega) (by omega)
    rw [List.length_append]
    omega
  · obtain ⟨rfl, rfl⟩ := Sh.last_old w w2 h4 h1 h0.1 fun b => by rw [h2, h0.2, ha.2]
    exact ⟨List.append_nil N, rfl⟩
theorem draw_step {l : List Str} {c : Cond} {N : List Sh.Nd} (hl : l.length ≤ 60) (w : Sh.Wf l.length N) (hw : c.within l = true) :
    ∃ r M, draw l c N = some (r, M) ∧ Sh.Wf l.length M ∧ ExtN N M ∧ SemN M r (fun b => c.holds (imB l b)) ∧ M.length ≤ N.length + c.cost (2 ^ l.length - 1) ∧ ∀ L, Sh.Wf l.length L → ExtN M L → draw l c L = some (r, L) := by
  obtain ⟨r, m, e, w2, h1, h2, h3, h4⟩ := draw_ok hl c N w hw
  exact ⟨r, N ++ m, e, w2, ⟨m, rfl⟩, ⟨h1, h2⟩, by rw [List.length_append]; omega, fun L wL ⟨k, hk⟩ => by subst hk; exact h4 k wL⟩
/-- a group of two that are there, where it is there: nothing is made -/
theorem grp_again {l : List Str} {c d : Cond} {s : Bool} {N : List Sh.Nd} {r1 r2 r0 : Nat} (hl : l.length ≤ 60) (w : Sh.Wf l.length N) (e1 : draw l c N = some (r1, N)) (e2 : draw l d N = some (r2, N))
    (h1 : SemN N r1 (fun b => c.holds (imB l b))) (h2 : SemN N r2 (fun b => d.holds (imB l b))) (h0 : SemN N r0 (fun b => Sh.op2 (stopOf s) (c.holds (imB l b)) (d.holds (imB l b)))) : draw l (.grp s [c, d]) N = some (r0, N) := by
  have hs := stopOf_lt s
  have h3 : SemN N (1 - stopOf s) (fun _ => s) := ⟨by omega, fun b => by rw [Sh.ev_low (by omega)]; cases s <;> rfl⟩
  obtain ⟨x, M, ⟨kn, e3⟩, _, _, _, _, k3⟩ := join_step hl hs w h3 h1
  obtain ⟨rfl, rfl⟩ := k3 r1 ⟨h1.1, fun b => by rw [h1.2]; cases s <;> simp [Sh.op2, stopOf]⟩
  obtain ⟨y, M, ⟨kn', e4⟩, _, _, _, _, k4⟩ := join_step hl hs w h1 h2
  obtain ⟨rfl, rfl⟩ := k4 r0 h0
  rw [draw, draws, e1]
  dsimp only
  rw [e3]
  dsimp only
  rw [draws, e2]
  dsimp only
  rw [e4]
  dsimp only
  rw [draws]
theorem not_again {l : List Str} {c : Cond} {N : List Sh.Nd} {r1 r0 : Nat} (hl : l.length ≤ 60) (w : Sh.Wf l.length N) (e1 : draw l c N = some (r1, N)) (h1 : SemN N r1 (fun b => c.holds (imB l b))) (h0 : SemN N r0 (fun b => !c.holds (imB l b))) : draw l (.not c) N = some (r0, N) := by
  obtain ⟨y, M, ⟨kn', e4⟩, _, _, _, _, k4⟩ := opp_step hl w h1
  obtain ⟨rfl, rfl⟩ := k4 r0 h0
  rw [draw, e1]
  dsimp only
  rw [e4]
theorem ShO.fresh {C x dx tn ln dn : Addr} {H : Hp} {names : List Str} {ns : List Sh.Nd} {p : Addr} (s : ShO C H x dx tn ln dn names ns) (np : H p = none) : p ≠ ln ∧ p ≠ dn := by
  obtain ⟨vs, h1, _⟩ := s.hl
  exact ⟨(ne_of_none h1 np).symm, (ne_of_none s.hd np).symm⟩

/-! ## rows of truths, held against each other -/
theorem shaped_of {d : PyData} (h : d.canLay0 = true) (hd : d.depth ≤ 64) : SeqAt.shaped d = true := by
  unfold SeqAt.shaped
  rw [h, decide_eq_true hd]
  rfl
theorem bools_dp {K : PySem.W.Frag} {H : Hp} : ∀ l : List Bool, DpAll K H (l.map V.bl) (l.map PyData.bool)
  | [] => .nil
  | n :: l => .cons (.bl n) (bools_dp l)
theorem bools_lay : ∀ {l : List Bool}, PyData.canLayAll0 (l.map PyData.bool) = true
  | [] => rfl
  | n :: l => by
    show (true && PyData.canLayAll0 (l.map PyData.bool)) = true
    rw [bools_lay]
    rfl
theorem bools_flat : ∀ l : List Bool, PyData.depthAll (l.map PyData.bool) = 0
  | [] => rfl
  | n :: l => by
    rw [List.map_cons, PyData.depthAll, bools_flat l]
    rfl
theorem bools_shaped {l : List Bool} : SeqAt.shaped (.tuple (l.map PyData.bool)) = true := shaped_of bools_lay (by rw [PyData.depth, bools_flat]; omega)
theorem bools_eqv {l : List Bool} : PyData.eqv (.tuple (l.map PyData.bool)) (.tuple (l.map PyData.bool)) = true := SeqAt.eqv_refl _ bools_lay

/-! ## lists of numbers -/
def natV (l : List Nat) : List V := l.map fun n : Nat => V.int n
theorem natV_app (a b : List Nat) : natV (a ++ b) = natV a ++ natV b := List.map_append
theorem natV_len (a : List Nat) : (natV a).length = a.length := List.length_map _
theorem inV_nat (n : Nat) : ∀ l : List Nat, inV (.int n) (natV l) = decide (n ∈ l)
  | [] => rfl
  | y :: l => by
    have ih := inV_nat n l
    unfold inV natV at ih ⊢
    rw [List.map_cons, List.any_cons, ih, Bool.eq_iff_iff]
    simp only [Bool.or_eq_true, decide_eq_true_eq, List.mem_cons, eqV, beq_iff_eq]
    constructor
    · rintro (h | h)
      · left; omega
      · exact .inr h
    · rintro (h | h)
      · left; omega
      · exact .inr h
theorem flat_nat : ∀ l : List Nat, (natV l).all flatV = true
  | [] => rfl
  | _ :: l => flat_nat l
theorem nat_dp {K : PySem.W.Frag} {H : Hp} : ∀ l : List Nat, DpAll K H (natV l) (l.map fun n : Nat => PyData.int n)
  | [] => .nil
  | n :: l => .cons (.int _) (nat_dp l)
theorem nat_lay : ∀ l : List Nat, PyData.canLayAll0 (l.map fun n : Nat => PyData.int n) = true
  | [] => rfl
  | n :: l => by
    show (true && PyData.canLayAll0 (l.map fun n : Nat => PyData.int n)) = true
    rw [nat_lay l]
    rfl
theorem nat_flat : ∀ l : List Nat, PyData.depthAll (l.map fun n : Nat => PyData.int n) = 0
  | [] => rfl
  | n :: l => by
    rw [List.map_cons, PyData.depthAll, nat_flat l]
    rfl
theorem nat_shaped (l : List Nat) : SeqAt.shaped (.list (l.map fun n : Nat => PyData.int n)) = true := shaped_of (nat_lay l) (by rw [PyData.depth, nat_flat]; omega)
theorem nat_eqv (l : List Nat) : PyData.eqv (.list (l.map fun n : Nat => PyData.int n)) (.list (l.map fun n : Nat => PyData.int n)) = true := SeqAt.eqv_refl _ (nat_lay l)

--%% ME
theorem ixOf_get : ∀ {l : List Str} {n : Str} {p : Nat}, l.Nodup → l[p]? = some n → ixOf l n = p
  | [], _, _, _, h => by simp at h
  | x :: r, n, 0, _, h => by
    simp at h
    unfold ixOf
    rw [if_pos h]
  | x :: r, n, p + 1, nd, h => by
    obtain ⟨n1, n2⟩ := List.nodup_cons.mp nd
    have h' : r[p]? = some n := by simpa using h
    unfold ixOf
    rw [if_neg (fun e : x = n => n1 (by rw [e]; exact List.mem_of_getElem? h')), ixOf_get n2 h']

/-! ## sheets: row -/
abbrev s_Sheet_row : Stmt := inClass (top 32) 15
theorem sc_Sheet_row : FnScope ["self", "node", "found", "name", "place", "low", "high"] ["self", "node"] (defScope s_Sheet_row) := ⟨rfl, rfl, rfl, by decide +kernel, rfl, by decide +kernel, by decide +kernel⟩
structure TRow (K : PySem.W.Frag) (mg : Str → Option Value) (cl : Cl) (xc : Xc) (cs : Addr) : Prop where
  sh : TSh K mg cl xc cs
  m_row : MethAt K cs "row" "Sheet.row" s_Sheet_row ["self", "node"]
/-- the way to 1: high where low is 0, else low -/
def pathB (ns : List Sh.Nd) : Nat → Nat → (Nat → Bool) → (Nat → Bool)
  | 0, _, b => b
  | f + 1, k, b => if k < 2 then b else match ns[k - 2]? with
    | some (p, l, h) => pathB ns f (if l = 0 then h else l) (Sh.setb b p (l == 0))
    | none => b
def rowB (ns : List Sh.Nd) (k : Nat) : Nat → Bool := pathB ns (k + 1) k fun _ => false
theorem path_more {n : Nat} {ns : List Sh.Nd} (w : Sh.Wf n ns) : ∀ (f k : Nat) (b : Nat → Bool), k < f → pathB ns f k b = pathB ns (k + 1) k b := by
  intro f
  induction f using Nat.strongRecOn with
  | _ f ih =>
    intro k b hk
    obtain ⟨g, rfl⟩ : ∃ g, f = g + 1 := ⟨f - 1, by omega⟩
    simp only [pathB]
    by_cases h2 : k < 2
    · rw [if_pos h2, if_pos h2]
    · rw [if_neg h2, if_neg h2]
      cases e : ns[k - 2]? with
      | none => rfl
      | some t =>
        obtain ⟨p, l, h⟩ := t
        obtain ⟨_, _, hl, hh, _⟩ := w.kids (by omega) e
        have hc : (if l = 0 then h else l) < k := by split <;> assumption
        show pathB ns g (if l = 0 then h else l) _ = pathB ns k (if l = 0 then h else l) _
        by_cases hgk : g = k
        · rw [hgk]
        · rw [ih g (by omega) _ _ (by omega), ih k (by omega) _ _ hc]
theorem path_low {ns : List Sh.Nd} {k : Nat} {b : Nat → Bool} (h : k < 2) : pathB ns (k + 1) k b = b := by
  unfold pathB
  rw [if_pos h]
theorem path_at {n : Nat} {ns : List Sh.Nd} (w : Sh.Wf n ns) {k p l h : Nat} (b : Nat → Bool) (h2 : 2 ≤ k) (e : ns[k - 2]? = some (p, l, h)) :
    pathB ns (k + 1) k b = pathB ns ((if l = 0 then h else l) + 1) (if l = 0 then h else l) (Sh.setb b p (l == 0)) := by
  obtain ⟨_, _, hl, hh, _⟩ := w.kids h2 e
  have hc : (if l = 0 then h else l) < k := by split <;> assumption
  rw [pathB, if_neg (by omega), e]
  exact path_more w _ _ _ hc
/-- what was set ahead stays -/
theorem path_keep {n : Nat} {ns : List Sh.Nd} (w : Sh.Wf n ns) : ∀ (k : Nat) (b : Nat → Bool), k < ns.length + 2 → ∀ q, q < Sh.pl n ns k → pathB ns (k + 1) k b q = b q := by
  intro k
  induction k using Nat.strongRecOn with
  | _ k ih =>
    intro b hk q hq
    by_cases h2 : k < 2
    · rw [path_low h2]
    · obtain ⟨p, l, h, e⟩ := Sh.at_some (by omega) hk
      obtain ⟨_, _, hl, hh, pl_, ph_⟩ := w.kids (by omega) e
      rw [Sh.pl_at (by omega) e] at hq
      rw [path_at w b (by omega) e]
      split
      · rw [ih h hh _ (by omega) q (by omega), Sh.setb_ne (by omega)]
      · rw [ih l hl _ (by omega) q (by omega), Sh.setb_ne (by omega)]
/-- it holds there -/
theorem path_holds {n : Nat} {ns : List Sh.Nd} (w : Sh.Wf n ns) : ∀ (k : Nat) (b : Nat → Bool), k < ns.length + 2 → k ≠ 0 → Sh.ev ns k (pathB ns (k + 1) k b) = true := by
  intro k
  induction k using Nat.strongRecOn with
  | _ k ih =>
    intro b hk h0
    by_cases h2 : k < 2
    · rw [Sh.ev_low h2]
      obtain rfl : k = 1 := by omega
      rfl
    · obtain ⟨p, l, h, e⟩ := Sh.at_some (by omega) hk
      obtain ⟨_, hlh, hl, hh, pl_, ph_⟩ := w.kids (by omega) e
      rw [path_at w b (by omega) e, w.ev_at _ (by omega) e]
      by_cases hl0 : l = 0
      · rw [if_pos hl0, path_keep w h _ (by omega) p ph_, Sh.setb_at, beq_iff_eq.mpr hl0, if_pos rfl]
        exact ih h hh _ (by omega) (by omega)
      · rw [if_neg hl0, path_keep w l _ (by omega) p pl_, Sh.setb_at, beq_eq_false_iff_ne.mpr hl0, if_neg Bool.false_ne_true]
        exact ih l hl _ (by omega) hl0
/-- a row of the names -/
def dictB (l : List Str) (b : Nat → Bool) : List (Str × Bool) := l.map fun n => (n, b (ixOf l n))
theorem dictB_keys (l : List Str) (b : Nat → Bool) : keysL (dictB l b) = l := by
  unfold keysL dictB
  rw [List.map_map]
  exact List.map_id' l
theorem dictB_len (l : List Str) (b : Nat → Bool) : (dictB l b).length = l.length := by unfold dictB; rw [List.length_map]
theorem dictB_put {l : List Str} {b : Nat → Bool} {p : Nat} {n : Str} {v : Bool} (nd : l.Nodup) (h : l[p]? = some n) : putL (dictB l b) n v = dictB l (Sh.setb b p v) := by
  have hm : n ∈ l := List.mem_of_getElem? h
  unfold putL
  rw [if_pos (by rw [dictB_keys]; exact hm)]
  unfold dictB
  rw [List.map_map]
  refine List.map_congr_left fun m hm => ?_
  simp only [Function.comp]
  by_cases e : m = n
  · subst e
    rw [if_pos rfl, ixOf_get nd h, Sh.setb_at]
  · rw [if_neg e, Sh.setb_ne]
    intro e2
    have := (ixOf_at hm).1
    rw [e2, h] at this
    exact e (by injection this with this; exact this.symm)
theorem dictB_get {l : List Str} {b : Nat → Bool} {n : Str} (hm : n ∈ l) : getL (dictB l b) n = some (b (ixOf l n)) := by
  have key : ∀ (L M : List Str), n ∈ M → getL (M.map fun m => (m, b (ixOf L m))) n = some (b (ixOf L n)) := by
    intro L M
    induction M with
    | nil => intro h; cases h
    | cons x r ih =>
      intro h
      unfold getL
      rw [List.map_cons, List.find?_cons]
      by_cases e : x = n
      · simp [e]
      · have h' : n ∈ r := by
          rcases List.mem_cons.mp h with q | q
          · exact absurd q.symm e
          · exact q
        have := ih h'
        unfold getL at this
        simp only [decide_eq_false e]
        exact this
  exact key l l hm
section
variable {P : Program} {w : World} {K : PySem.W.Frag} {mg : Str → Option Value} {base : Heap} {cl : Cl} {xc : Xc} {cs : Addr}
def spRowS (cs : Addr) : Sp := fun vs H Q _ => ∃ (x dx tn ln dn : Addr) (names : List Str) (ns : List Sh.Nd) (a : Nat), vs = [.ref x, .int a] ∧ ShO cs H x dx tn ln dn names ns ∧ Sh.Wf names.length ns ∧ names.length ≤ 60 ∧ names.Nodup ∧ a < ns.length + 2 ∧
  (a = 0 → Q .non H) ∧ (a ≠ 0 → ∀ (H' : Hp) (d : Addr), Same H H' → H d = none → H' d = some (.dK (dL V.bl (dictB names (rowB ns a)))) → Q (.ref d) H')
theorem disp_row (T : TRow K mg cl xc cs) : DispAt P w K mg base CX0 (fun C => C = cs) "row" 2 ["self", "node"] (fun _ => spRowS cs) := by
  have G_need := (disp_need (P := P) (w := w) (base := base) T.sh).calm
  refine ⟨fun C hC => ?_⟩
  subst hC
  refine methAt_ok T.sh.dr.opp.sh.c_Sheet.cl T.m_row sc_Sheet_row (fun vs H Q E h => ?_) (fun fa cdv A outer st H vs Q E hr h => ?_)
  · obtain ⟨x, dx, tn, ln, dn, names, ns, a, rfl, _⟩ := h; rfl
  · obtain ⟨x, dx, tn, ln, dn, names, ns, a, rfl, s, wf, hl, hnd, ha, q0, q1⟩ := h
    have hu := hu_of hr
    refine ⟨_, (pss_cons (ps_if (pt_cmpR op_eq (pe_methD G_need hr pass0 (pv 0) (pa_cons (pv 1) pa_nil)) pe_int (nomark _)) (pss_one (ps_ret pe_non)) pss_nil)
        (pss_cons (ps_set (i := 2) sc_Sheet_row.nd rfl (by first | exact Or.inl rfl | exact Or.inr rfl) pe_dnewK)
        (pss_cons (ps_for PassesOwn.never rfl (pi_tup (pe_fld (pv 0) rfl)) (pg_name (i := 3) sc_Sheet_row.nd rfl (by first | exact Or.inl rfl | exact Or.inr rfl)) (pss_one (ps_dput hu (pv 2) (pv 3) pe_bl rfl)))
        (pss_cons (ps_while PassesOwn.never (pt_cmpR op_ne (pv 1) pe_int (nomark _)) (pss_cons (ps_asg (pe_ix ix_list (pe_fld (pv 0) rfl) (pe_op op_sub (pv 1) pe_int) (fun _ _ => rfl)) (pg_tup rfl (pgs_cons (pg_name (i := 4) sc_Sheet_row.nd rfl (by first | exact Or.inl rfl | exact Or.inr rfl)) (pgs_cons (pg_name (i := 5) sc_Sheet_row.nd rfl (by first | exact Or.inl rfl | exact Or.inr rfl)) (pgs_cons (pg_name (i := 6) sc_Sheet_row.nd rfl (by first | exact Or.inl rfl | exact Or.inr rfl)) pgs_nil)))))
          (pss_cons (ps_dput hu (pv 2) (pe_ix ix_tup (pe_fld (pv 0) rfl) (pv 4) (fun _ _ => rfl)) (pe_cmpR op_eq (pv 5) pe_int (nomark _)) rfl)
          (pss_one (ps_set (i := 1) sc_Sheet_row.nd rfl (by first | exact Or.inl rfl | exact Or.inr rfl) (pe_ifExp (pt_cmpR op_eq (pv 5) pe_int (nomark _)) (pv 6) (pv 5)))))))
        (pss_one (ps_ret (pv 2))))))), ?_⟩
    walk_at "rd"
    refine ⟨_, rfl, x, C, dx, _, rfl, s.ob, rfl, lkSn (by decide +kernel), _, rfl, x, dx, tn, ln, dn, names, ns, (a : Int), rfl, s, fun _ => ⟨scal_ii, ?_⟩, (fun h => absurd ⟨by omega, by omega⟩ h)⟩
    by_cases h0 : a = 0
    · rw [decide_eq_true (by rw [h0]; rfl)]
      exact iteT (q0 h0)
    rw [decide_eq_false (fun e => h0 (by injection e with e; omega))]
    refine iteF fun d nd => ?_
    have s1 : Same H (upd H d (.dK [])) := Same.new nd
    have hd1 : upd H d (.dK []) d = some (.dK []) := upd_same
    show tFor _ _ _ _ _ (upd H d (.dK []))
    generalize upd H d (.dK []) = H1 at s1 hd1 ⊢
    have sh1 := s.keep s1
    refine ⟨_, rfl, x, _, dx, _, _, rfl, sh1.ob, T.sh.dr.opp.sh.c_Sheet.cl, T.sh.dr.opp.sh.n_names, lkS1, tn, rfl, ⟨_, sh1.hn.sq⟩, for_tup (K := K) (a := tn) (xs := names.map V.str) (fun i σ H' => ∃ v3 : Option V, σ = [some (.ref x), some (.int a), some (.ref d), v3, none, none, none] ∧ Same H H' ∧ H' d = some (.dK (dL V.bl ((names.take i).map fun n => (n, false))))) ⟨none, rfl, s1, hd1⟩ (fun i σ H' _ ⟨_, _, s2, _⟩ => (s.keep s2).hn.sq) ?_ ?_⟩
    · rintro i y σ H2 hy ⟨v3, rfl, s2, hd2⟩
      rw [List.getElem?_map] at hy
      obtain ⟨n, hn, rfl⟩ := Option.map_eq_some_iff.mp hy
      have hil := (List.getElem?_eq_some_iff.mp hn).1
      walk_at "rd"
      refine ⟨_, rfl, _, rfl, d, _, rfl, DPut.k (k := .inr n) hd2 (by rw [dL_len, List.length_map, List.length_take, sizeLine_eq]; omega), _, rfl, Same.mut s2 nd, ?_⟩
      rw [upd_same]
      congr 2
      rw [dL_put, keys_new, List.take_succ, hn, List.map_append]
      · rfl
      · have hk : keysL ((names.take i).map fun n => (n, false)) = names.take i := by unfold keysL; rw [List.map_map]; exact List.map_id' _
        rw [hk]
        intro hm
        have hsp : names.take i ++ names.drop i = names := List.take_append_drop i names
        obtain ⟨hi1, hg⟩ := List.getElem?_eq_some_iff.mp hn
        have nd2 := hnd
        rw [← hsp, List.nodup_append] at nd2
        exact nd2.2.2 n hm n (by rw [List.drop_eq_getElem_cons hi1, hg]; exact List.mem_cons_self) rfl
    rintro σ H2 ⟨v3, rfl, s2, hd2⟩
    rw [List.length_map, List.take_length] at hd2
    walk_at "rd"
    refine ⟨fun mm σ H' => ∃ (v4 v5 v6 : Option V) (n : Nat) (b : Nat → Bool), σ = [some (.ref x), some (.int (n : Int)), some (.ref d), v3, v4, v5, v6] ∧ Same H H' ∧ n < ns.length + 2 ∧ n ≠ 0 ∧ pathB ns (n + 1) n b = rowB ns a ∧ H' d = some (.dK (dL V.bl (dictB names b))) ∧ mm = n, ⟨a, none, none, none, a, fun _ => false, rfl, s2, ha, h0, rfl, hd2, rfl⟩, ?_⟩
    rintro n σ H3 ⟨v4, v5, v6, n', b, rfl, s3, hn, hn0, he, hd3, rfl⟩
    have sh3 := s.keep s3
    walk_at "rd"
    by_cases h1 : n = 1
    · subst h1
      refine iteF ?_
      rw [path_low (by omega)] at he
      exact q1 h0 H3 d s3 nd (by rw [hd3, he])
    rw [decide_eq_false (fun e : (n : Int) = 1 => h1 (by omega))]
    have h2 : 2 ≤ n := by omega
    obtain ⟨p, l, h, e⟩ := Sh.at_some h2 hn
    obtain ⟨hpn, hlh, hl', hh', pl_, ph_⟩ := wf.kids h2 e
    obtain ⟨vs, t, t1, t3, t4, _⟩ := sh3.at h2 e
    refine iteT ⟨_, fun σ' H' h => h, _, rfl, x, _, dx, _, _, rfl, sh3.ob, T.sh.dr.opp.sh.c_Sheet.cl, T.sh.dr.opp.sh.n_nodes, lkS2, ln, vs, _, .ref t, rfl, rfl, SqL.of t1, t3, t, [.int p, .int l, .int h], rfl, SqT.of t4, rfl, ?_⟩
    walk_at "rd"
    unfold sDPut
    walk_at "rd"
    have e0 : decide ((l : Int) = 0) = (l == 0) := by rw [Bool.eq_iff_iff, decide_eq_true_iff, beq_iff_eq]; omega
    rw [e0]
    obtain ⟨nm, hnm⟩ : ∃ nm, names[p]? = some nm := ⟨names[p], List.getElem?_eq_getElem hpn⟩
    have hat : atI (names.map V.str) (p : Int) = some (.str nm) := atI_nat (by rw [List.getElem?_map, hnm]; rfl)
    refine ⟨_, rfl, x, _, dx, _, _, rfl, sh3.ob, T.sh.dr.opp.sh.c_Sheet.cl, T.sh.dr.opp.sh.n_names, lkS1, tn, _, _, .str nm, rfl, rfl, sh3.hn.sq, hat, _, DPut.k (k := .inr nm) hd3 (by rw [dL_len, dictB_len, sizeLine_eq]; omega), ?_⟩
    have s4 : Same H (upd H3 d (.dK (putK (dL V.bl (dictB names b)) (.inr nm) (V.bl (l == 0))))) := Same.mut s3 nd
    have hd4 : upd H3 d (.dK (putK (dL V.bl (dictB names b)) (.inr nm) (V.bl (l == 0)))) d = some (.dK (dL V.bl (dictB names (Sh.setb b p (l == 0))))) := by
      rw [upd_same, dL_put, dictB_put hnd hnm]
    rw [path_at wf b h2 e] at he
    generalize upd H3 d (.dK (putK (dL V.bl (dictB names b)) (.inr nm) (V.bl (l == 0)))) = H4 at s4 hd4 ⊢
    walk_at "rd"
    by_cases hl0 : l = 0
    · rw [beq_iff_eq.mpr hl0]
      rw [if_pos hl0] at he
      exact iteT ⟨h, hh', _, _, _, h, ⟨rfl, rfl, rfl, rfl⟩, s4, by omega, by omega, _, he, hd4, rfl⟩
    · rw [beq_eq_false_iff_ne.mpr hl0]
      rw [if_neg hl0] at he
      exact iteF ⟨l, hl', _, _, _, l, ⟨rfl, rfl, rfl, rfl⟩, s4, by omega, hl0, _, he, hd4, rfl⟩
end

--%% MF0
/-! ## what contacts tells -/
theorem addN_nodup {l : List Str} {n : Str} (h : l.Nodup) : (addN l n).Nodup := by
  unfold addN
  split
  · exact h
  · rename_i hn
    rw [List.nodup_append]
    refine ⟨h, by simp, fun a ha b hb e => ?_⟩
    rw [List.mem_singleton.mp hb] at e
    exact hn (e ▸ ha)
theorem addN_self (l : List Str) (n : Str) : n ∈ addN l n := by
  unfold addN
  split
  · assumption
  · exact List.mem_append_right _ (List.mem_singleton.mpr rfl)
theorem addN_sub {l : List Str} {n x : Str} (h : x ∈ l) : x ∈ addN l n := by
  unfold addN
  split
  · exact h
  · exact List.mem_append_left _ h
mutual
theorem gather_nodup : ∀ (c : Cond) {l : List Str}, l.Nodup → (c.gather l).Nodup
  | .fixed _, _, h => h
  | .contact _, _, h => addN_nodup h
  | .not c, _, h => gather_nodup c h
  | .grp _ cs, _, h => gathers_nodup cs h
theorem gathers_nodup : ∀ (cs : List Cond) {l : List Str}, l.Nodup → (Cond.gathers l cs).Nodup
  | [], _, h => h
  | c :: cs, _, h => gathers_nodup cs (gather_nodup c h)
end
theorem contacts_nodup (c : Cond) : c.contacts.Nodup := gather_nodup c List.nodup_nil
mutual
theorem gather_sub : ∀ (c : Cond) {l : List Str} {x : Str}, x ∈ l → x ∈ c.gather l
  | .fixed _, _, _, h => h
  | .contact _, _, _, h => addN_sub h
  | .not c, _, _, h => gather_sub c h
  | .grp _ cs, _, _, h => gathers_sub cs h
theorem gathers_sub : ∀ (cs : List Cond) {l : List Str} {x : Str}, x ∈ l → x ∈ Cond.gathers l cs
  | [], _, _, h => h
  | c :: cs, _, _, h => gathers_sub cs (gather_sub c h)
end
mutual
theorem Cond.within_mono {l l' : List Str} (h : ∀ n ∈ l, n ∈ l') : ∀ {c : Cond}, c.within l = true → c.within l' = true
  | .fixed _, _ => rfl
  | .contact n, w => by
    rw [Cond.within] at w ⊢
    exact decide_eq_true (h n (of_decide_eq_true w))
  | .not c, w => by
    rw [Cond.within] at w ⊢
    exact Cond.within_mono h w
  | .grp s cs, w => by
    rw [Cond.within] at w ⊢
    exact Cond.withins_mono h w
theorem Cond.withins_mono {l l' : List Str} (h : ∀ n ∈ l, n ∈ l') : ∀ {cs : List Cond}, Cond.withins l cs = true → Cond.withins l' cs = true
  | [], _ => rfl
  | c :: cs, w => by
    rw [Cond.withins, Bool.and_eq_true] at w ⊢
    exact ⟨Cond.within_mono h w.1, Cond.withins_mono h w.2⟩
end
mutual
theorem within_gather_self : ∀ (c : Cond) (l : List Str), c.within (c.gather l) = true
  | .fixed _, _ => rfl
  | .contact n, l => by
    rw [Cond.within]
    exact decide_eq_true (addN_self l n)
  | .not c, l => by
    rw [Cond.within]
    exact within_gather_self c l
  | .grp s cs, l => by
    rw [Cond.within]
    exact withins_gather_self cs l
theorem withins_gather_self : ∀ (cs : List Cond) (l : List Str), Cond.withins (Cond.gathers l cs) cs = true
  | [], _ => rfl
  | c :: cs, l => by
    rw [Cond.withins, Bool.and_eq_true]
    exact ⟨Cond.within_mono (fun n h => gathers_sub cs h) (within_gather_self c l), withins_gather_self cs (c.gather l)⟩
end
theorem within_self (c : Cond) : c.within c.contacts = true := within_gather_self c []
theorem addN_names {l : List Str} {n : Str} (h : ∀ x ∈ l, isName x = true) (hn : isName n = true) : ∀ x ∈ addN l n, isName x = true := by
  unfold addN
  split
  · exact h
  · intro x hx
    rcases List.mem_append.mp hx with hx | hx
    · exact h x hx
    · rw [List.mem_singleton.mp hx]; exact hn
mutual
theorem gather_names : ∀ {c : Cond} {l : List Str}, c.ok = true → (∀ x ∈ l, isName x = true) → ∀ x ∈ c.gather l, isName x = true
  | .fixed _, _, _, h => h
  | .contact n, _, ho, h => addN_names h (by rw [Cond.ok] at ho; exact ho)
  | .not c, _, ho, h => gather_names (c := c) (by rw [Cond.ok] at ho; exact ho) h
  | .grp _ cs, _, ho, h => gathers_names (cs := cs) (by rw [Cond.ok, Bool.and_eq_true] at ho; exact ho.2) h
theorem gathers_names : ∀ {cs : List Cond} {l : List Str}, Cond.oks cs = true → (∀ x ∈ l, isName x = true) → ∀ x ∈ Cond.gathers l cs, isName x = true
  | [], _, _, h => h
  | c :: cs, _, ho, h => by
    rw [Cond.oks, Bool.and_eq_true] at ho
    rw [Cond.gathers]
    exact gathers_names ho.2 (gather_names ho.1 h)
end
theorem contacts_names {c : Cond} (h : c.ok = true) : ∀ x ∈ c.contacts, isName x = true := gather_names h fun _ hx => nomatch hx
theorem nodup_le : ∀ {l m : List Str}, l.Nodup → (∀ x ∈ l, x ∈ m) → l.length ≤ m.length
  | [], _, _, _ => Nat.zero_le _
  | x :: l, m, h, hs => by
    have h1 := List.nodup_cons.mp h
    have hx := hs x List.mem_cons_self
    have e := nodup_le (m := m.erase x) h1.2 fun y hy => (List.mem_erase_of_ne (fun e : y = x => h1.1 (e ▸ hy))).mpr (hs y (List.mem_cons_of_mem _ hy))
    rw [List.length_erase_of_mem hx] at e
    have := List.length_pos_of_mem hx
    rw [List.length_cons]
    omega
theorem contacts_le {c : Cond} {l : List Str} (h : c.within l = true) : c.contacts.length ≤ l.length := nodup_le (contacts_nodup c) (Cond.within_contacts h)
theorem contacts_size (c : Cond) : c.contacts.length ≤ c.size := by
  have := gather_len c []
  simp at this
  exact this
theorem addN_in {l : List Str} {n : Str} (h : n ∈ l) : addN l n = l := if_pos h
theorem foldN_sub : ∀ (xs : List Str) {l : List Str} {x : Str}, x ∈ l → x ∈ xs.foldl addN l
  | [], _, _, h => h
  | y :: xs, _, _, h => foldN_sub xs (addN_sub h)
theorem foldN_mem : ∀ (xs : List Str) {l : List Str} {x : Str}, x ∈ xs → x ∈ xs.foldl addN l
  | y :: xs, l, x, h => by
    rcases List.mem_cons.mp h with rfl | h
    · exact foldN_sub xs (addN_self l x)
    · exact foldN_mem xs h
theorem foldN_addN (l xs : List Str) (y : Str) : (addN xs y).foldl addN l = addN (xs.foldl addN l) y := by
  by_cases h : y ∈ xs
  · rw [addN_in h, addN_in (foldN_mem xs h)]
  · rw [show addN xs y = xs ++ [y] from if_neg h, List.foldl_append]
    rfl
theorem foldN_fold : ∀ (ys l xs : List Str), (ys.foldl addN xs).foldl addN l = ys.foldl addN (xs.foldl addN l)
  | [], _, _ => rfl
  | y :: ys, l, xs => by
    rw [List.foldl_cons, List.foldl_cons, foldN_fold ys l (addN xs y), foldN_addN]
mutual
theorem gather_fold : ∀ (c : Cond) (l : List Str), c.gather l = (c.gather []).foldl addN l
  | .fixed _, _ => rfl
  | .contact n, l => rfl
  | .not c, l => gather_fold c l
  | .grp _ cs, l => gathers_foldN cs l
theorem gathers_foldN : ∀ (cs : List Cond) (l : List Str), Cond.gathers l cs = (Cond.gathers [] cs).foldl addN l
  | [], _ => rfl
  | c :: cs, l => by
    rw [Cond.gathers, Cond.gathers, gathers_foldN cs (c.gather l), gathers_foldN cs (c.gather []), foldN_fold, ← gather_fold c l]
end
theorem foldN_len : ∀ (xs l : List Str), (xs.foldl addN l).length ≤ l.length + xs.length
  | [], l => by simp
  | x :: xs, l => by
    have h1 := foldN_len xs (addN l x)
    have h2 := addN_len l x
    rw [List.foldl_cons, List.length_cons]
    omega
theorem sizes_takeK (cs : List Cond) (i : Nat) : Cond.sizes (cs.take i) ≤ Cond.sizes cs := by
  have e := List.take_append_drop i cs
  have h : Cond.sizes (cs.take i ++ cs.drop i) = Cond.sizes (cs.take i) + Cond.sizes (cs.drop i) := sizes_app _ _
  rw [e] at h
  omega

/-! ## contacts: a tuple that bears nothing of its own -/
section
variable {P : Program} {w : World} {K : PySem.W.Frag} {mg : Str → Option Value} {base : Heap} {cl : Cl}
def spContactsN (cl : Cl) (n : Nat) (C : Addr) : Sp := fun vs H Q _ => ∃ (a dx : Addr) (fs : List (Str × V)) (c : Cond), vs = [.ref a] ∧ H a = some (.ins C dx fs) ∧ IsP cl H (.ref a) c ∧ c.depth ≤ n ∧ c.size ≤ 1000 ∧
  ∀ (H' : Hp) (t : Addr), Same H H' → TupN H' t (c.contacts.map V.str) → H t = none → Q (.ref t) H'
theorem disp_contactsN (T : TGather K mg cl) (n : Nat) : DispAt P w K mg base CX0 cl.has "contacts" (n + 2) ["self"] (spContactsN cl n) := by
  have G_gather : DispAt P w K mg base CX0 cl.has "gather" (n + 1) ["self", "found"] (spGather cl n) := disp_gather T n
  refine ⟨fun C hC => ?_⟩
  have D : MethAt K C "contacts" "Part.contacts" s_Part_contacts ["self"] := by
    rcases hC with rfl | rfl | rfl | rfl | rfl
    · exact T.m_contacts_fx
    · exact T.m_contacts_ct
    · exact T.m_contacts_tn
    · exact T.m_contacts_sr
    · exact T.m_contacts_br
  refine methAt_ok (T.parts.cls hC) D sc_Part_contacts (fun vs H Q E h => ?_) (fun f cdv A outer s H vs Q E hr h => ?_)
  · obtain ⟨a, dx, fs, c, rfl, _⟩ := h; rfl
  · obtain ⟨a, dx, fs, c, rfl, ha, p, hd, hz, q⟩ := h
    refine ⟨_, (pss_cons (ps_set (i := 1) sc_Part_contacts.nd rfl (by first | exact Or.inl rfl | exact Or.inr rfl) pe_dnewK)
        (pss_cons (ps_expr (pe_methD G_gather hr pass0 (pv 0) (pa_cons (pv 1) pa_nil) (Nat.le_refl _)))
        (pss_one (ps_ret (pe_tupKeysN T.z_tuple (pv 1)))))), ?_⟩
    intro d nd
    have ha1 : upd H d (.dK []) a = some (.ins C dx fs) := Same.new nd _ _ ha
    refine ⟨_, rfl, a, C, dx, fs, rfl, ha1, hC, look_of (by decide +kernel) ha p, _, rfl, a, dx, d, fs, c, [], rfl, ha1, p.mono (Imm.new nd), hd, upd_same, by simpa using hz, fun H1 b1 h1 => ?_⟩
    refine ⟨_, rfl, d, _, rfl, h1, fun t o nt od => ?_⟩
    have s1 : Same H H1 := b1.same (Same.new nd) nd
    refine q _ t (s1.trans (Same.new nt)) ⟨o, ?_, od⟩ (s1.free nt)
    rw [upd_same]
    unfold nm
    rw [List.map_map]
    rfl
end

--%% MF
/-! ## the law's conditions (sheets) -/
abbrev s__law_grown : Stmt := top 58
theorem sc__law_grown : FnScope ["_law_pile", "_law_cell", "_law_names_here", "_law_kind", "_law_more", "_law_at"] ["_law_pile", "_law_cell", "_law_names_here"] (defScope s__law_grown) := ⟨rfl, rfl, rfl, by decide +kernel, rfl, by decide +kernel, by decide +kernel⟩
abbrev s__law_condition : Stmt := top 59
theorem sc__law_condition : FnScope ["_law_cell", "_law_many", "_law_names_here", "_law_pile", "_law_k", "_law_told", "_law_way"] ["_law_cell", "_law_many", "_law_names_here"] (defScope s__law_condition) := ⟨rfl, rfl, rfl, by decide +kernel, rfl, by decide +kernel, by decide +kernel⟩
structure TGrown (K : PySem.W.Frag) (mg : Str → Option Value) : Prop where
  cells : TCells K mg
  d_grown : DefAt K mg "_law_grown" s__law_grown ["_law_pile", "_law_cell", "_law_names_here"]
  d_condition : DefAt K mg "_law_condition" s__law_condition ["_law_cell", "_law_many", "_law_names_here"]
  z_len : mg "len" = none
  z_range : mg "range" = none
  z_tuple : mg "tuple" = none
  z_max : mg "max" = none
theorem wgts_app : ∀ a b : List Cond, Cond.wgts (a ++ b) = Cond.wgts a + Cond.wgts b
  | [], b => by simp [Cond.wgts]
  | c :: a, b => by rw [List.cons_append, Cond.wgts, Cond.wgts, wgts_app a b]; omega
theorem oks_of : ∀ {cs : List Cond}, (∀ c ∈ cs, c.ok = true) → Cond.oks cs = true
  | [], _ => rfl
  | c :: cs, h => by rw [Cond.oks, h c List.mem_cons_self, oks_of fun c hc => h c (List.mem_cons_of_mem _ hc)]; rfl
/-- a pile of n cells over these names -/
structure Pile (l : List Str) (n : Nat) (cs : List Cond) : Prop where
  ok : ∀ c ∈ cs, c.ok = true ∧ c.within l = true
  sz : Cond.sizes cs ≤ n
  wg : Cond.wgts cs ≤ n
theorem Pile.nil {l : List Str} {n : Nat} : Pile l n [] := ⟨by simp, Nat.zero_le _, Nat.zero_le _⟩
theorem Pile.len {l : List Str} {n : Nat} {cs : List Cond} (h : Pile l n cs) : cs.length ≤ n := Nat.le_trans (Cond.len_sizes cs) h.sz
section
variable {P : Program} {w : World} {K : PySem.W.Frag} {mg : Str → Option Value} {base : Heap}
def spGrown : Sp := fun vs H Q _ => ∃ (p q : Addr) (m : Int) (ws : List V) (cs : List Cond) (l : List Str) (n d : Nat), vs = [.ref p, .int m, .ref q] ∧ H p = some (.lst ws) ∧ IsTs H ws cs ∧ Pile l n cs ∧ n ≤ 100 ∧ NamesU H q l d ∧ 0 < d ∧
  ∀ (H' : Hp) (p' : Addr) (ws' : List V) (cs' : List Cond), Same H H' → H p' = none → H' p' = some (.lst ws') → IsTs H' ws' cs' → Pile l (n + 1) cs' → Q (.ref p') H'
theorem ok_grown (T : TGrown K mg) : FnAt P w K mg base CX0 "_law_grown" 2 ["_law_pile", "_law_cell", "_law_names_here"] spGrown := by
  have G__law_mixed : FnAt P w K mg base CX0 "_law_mixed" 1 _ spMixed := ok_mixed T.cells
  refine fnAt_ok T.d_grown sc__law_grown (fun vs H Q E h => ?_) (fun f cdv A outer s H vs Q E hr h => ?_)
  · obtain ⟨p, q, m, ws, cs, l, n, d, rfl, _⟩ := h; rfl
  · obtain ⟨p, q, m, ws, cs, l, n, d, rfl, hp, ps, hg, hn100, hn, hd0, k⟩ := h
    have hlen := ps.length
    have hcl := hg.len
    refine ⟨_, (pss_cons (ps_set (i := 3) sc__law_grown.nd rfl (by first | exact Or.inl rfl | exact Or.inr rfl) (pe_op op_mod (pe_op op_fdiv (pe_callF G__law_mixed hr pass0 (pa_cons (pv 1) (pa_cons pe_int pa_nil))) pe_int) pe_int))
        (pss_cons (ps_set (i := 4) sc__law_grown.nd rfl (by first | exact Or.inl rfl | exact Or.inr rfl) (pe_op op_fdiv (pe_callF G__law_mixed hr pass0 (pa_cons (pv 1) (pa_cons pe_int pa_nil))) pe_int))
        (C8.pss_cut (ps_if (PW.pt (pw_or (pt_cmpR op_eq (pv 3) pe_int (nomark _)) (pw_or1 (pt_cmpR (op_eqE hr.units0) (pv 2) (pe_lst pa_nil) (nomark _))))) (pss_one (ps_ret (pe_op op_cat (pv 0) (pe_lst (pa_cons (pe_tup (pa_cons pe_str (pa_cons (pe_cmpR op_eq (pe_op op_mod (pv 4) pe_int) pe_int (nomark _)) pa_nil))) pa_nil))))) pss_nil)
        (C8.pss_cut (ps_if (PW.pt (pw_and (pt_cmpR op_eq (pv 3) pe_int (nomark _)) (pw_and1 (pt_cmpR (op_neE hr.units0) (pv 0) (pe_lst pa_nil) (nomark _))))) (pss_one (ps_ret (pe_op op_cat (pe_slice sl_list (pv 0) po_none (po_some (pe_un un_neg pe_int))) (pe_lst (pa_cons (pe_tup (pa_cons pe_str (pa_cons (pe_ix ix_list (pv 0) (pe_un un_neg pe_int) (fun _ _ => rfl)) pa_nil))) pa_nil))))) pss_nil)
        (C8.pss_cut (ps_if (PW.pt (pw_and (pt_cmpR op_gt (pv 3) pe_int (nomark _)) (pw_and1 (pt_cmpR op_gt (pe_callB call_len_seq (by rfl) T.z_len PySem.boot_len (pa_cons (pv 0) pa_nil)) pe_int (nomark _))))) (pss_cons (ps_set (i := 5) sc__law_grown.nd rfl (by first | exact Or.inl rfl | exact Or.inr rfl) (pe_callB (call_max2 rfl) (by rfl) T.z_max (by decide +kernel) (pa_cons pe_int (pa_cons (pe_op op_sub (pe_op op_sub (pe_callB call_len_seq (by rfl) T.z_len PySem.boot_len (pa_cons (pv 0) pa_nil)) pe_int) (pe_op op_mod (pv 4) pe_int)) pa_nil))))
          (pss_one (ps_ret (pe_op op_cat (pe_slice sl_list (pv 0) po_none (po_some (pv 5))) (pe_lst (pa_cons (pe_op op_catT (pe_tup (pa_cons (pe_ix ix_list (pe_lst (pa_cons pe_str (pa_cons pe_str pa_nil))) (pe_op op_mod (pe_op op_fdiv (pv 4) pe_int) pe_int) (fun _ _ => rfl)) pa_nil)) (pe_callTy call_tuple_of (by rfl) T.z_tuple (show PySem.bootBuiltins "tuple" = some (.type "tuple") by decide +kernel) (pa_cons (pe_slice sl_list (pv 0) (po_some (pv 5)) po_none) pa_nil))) pa_nil)))))) pss_nil)
        (pss_one (ps_ret (pe_op op_cat (pv 0) (pe_lst (pa_cons (pe_tup (pa_cons pe_str (pa_cons (pe_ix ix_list (pv 2) (pe_op op_mod (pv 4) (pe_callB call_len_seq (by rfl) T.z_len PySem.boot_len (pa_cons (pv 2) pa_nil))) (fun _ _ => rfl)) pa_nil))) pa_nil)))))))))), ?_⟩
    walk_at "rd"
    refine ⟨m, 1, rfl, _, rfl, m, 2, rfl, _, rfl, ?_⟩
    generalize mixed m 1 / 5 % 12 = kind
    generalize mixed m 2 / 5 = more
    have fin : ∀ (H2 : Hp) (a b : Addr) (us : List V) (ds : List Cond) (v : V) (c : Cond), Same H H2 → H2 a = some (.lst us) → H2 b = some (.lst [v]) → IsTs H2 us ds → IsT H2 v c → (∀ x ∈ ds, x ∈ cs) → c.ok = true → c.within l = true → Cond.sizes ds + c.size ≤ n + 1 → Cond.wgts ds + c.wgt ≤ n + 1 → rCat (.ref a) (.ref b) H2 Q := by
      intro H2 a b us ds v c s2 hl2 hb2 pd pc h1 h3 h4 h5 h6
      have hul := pd.length
      have hdl := Cond.len_sizes ds
      refine ⟨a, b, us, [v], rfl, rfl, hl2, hb2, line_ge (by simp; omega), fun p' np' => ?_⟩
      refine k _ p' _ (ds ++ [c]) (s2.trans (Same.new np')) (s2.free np') upd_same ((pd.mono (T := fun _ => False) (Imm.new np')).snoc (pc.mono (T := fun _ => False) (Imm.new np'))) ⟨fun x hx => ?_, ?_, ?_⟩
      · rcases List.mem_append.mp hx with hx | hx
        · exact hg.ok x (h1 x hx)
        · rw [List.mem_singleton.mp hx]; exact ⟨h3, h4⟩
      · rw [sizes_app]; simp [Cond.sizes]; omega
      · rw [wgts_app]; simp [Cond.wgts]; omega
    have ne : ws.isEmpty = cs.isEmpty := by
      cases ps <;> rfl
    have hsz := hg.sz
    have hwg := hg.wg
    refine ⟨fun σ' H' => σ' = [some (.ref p), some (.int m), some (.ref q), some (.int kind), some (.int more), none] ∧ Same H H', ?_, ?_⟩
    · walk_at "rd"
      have hll := hn.len
      refine ite2 (fun _ => ⟨line_ge (by simp), fun p2 np2 => ⟨line_ge (by simp), fun p3 np3 => ?_⟩⟩) (fun _ => ⟨Nat.zero_le _, fun z nz => ⟨q, z, _, rfl, rfl, SqL.of (Same.new nz _ _ hn.at_), SqL.of upd_same, _, rfl, ?_⟩⟩)
      · have s4 := (Same.new (o := .tup [.str "fixed", .bl (decide (more % 2 = 1))]) np2).trans (Same.new (o := .lst [.ref p2]) np3)
        exact fin _ p p3 ws cs (.ref p2) (.fixed (decide (more % 2 = 1))) s4 (s4 _ _ hp) upd_same (ps.mono (T := fun _ => False) (Same.imm s4)) (.fixed (Same.new np3 _ _ upd_same)) (fun x hx => hx) rfl rfl (by rw [Cond.size]; omega) (by rw [Cond.wgt]; omega)
      · obtain ⟨n0, nr, rfl⟩ : ∃ n0 nr, l = n0 :: nr := by
          cases l with
          | nil => simp at hll; omega
          | cons x y => exact ⟨x, y, rfl⟩
        exact iteF (Same.new nz)
    rintro σ' H2 ⟨rfl, s1⟩
    refine ⟨fun σ' H' => σ' = [some (.ref p), some (.int m), some (.ref q), some (.int kind), some (.int more), none] ∧ Same H H', ?_, ?_⟩
    · walk_at "rd"
      refine ite2 (fun _ => ⟨Nat.zero_le _, fun z nz => ?_⟩) (fun _ => s1)
      refine ⟨p, z, ws, rfl, rfl, SqL.of (Same.new nz _ _ (s1 _ _ hp)), SqL.of upd_same, _, rfl, ?_⟩
      have s2 : Same H (upd H2 z (.lst [])) := s1.trans (Same.new nz)
      cases hc : cs with
      | nil =>
        subst hc
        rw [ne]
        exact iteF s2
      | cons c0 cr =>
        rw [ne, hc]
        refine iteT ?_
        obtain ⟨ds, c, ecs⟩ : ∃ ds c, cs = ds ++ [c] := by
          have h : cs ≠ [] := by rw [hc]; simp
          exact ⟨cs.dropLast, cs.getLast h, (List.dropLast_concat_getLast h).symm⟩
        obtain ⟨us, v, ews, pu, pv⟩ : ∃ us v, ws = us ++ [v] ∧ IsTs H us ds ∧ IsT H v c := by
          have h1 := ps.take ds.length
          have h2 := ps.drop ds.length
          rw [ecs, List.take_left] at h1
          rw [ecs, List.drop_left] at h2
          have e := List.take_append_drop ds.length ws
          generalize ws.drop ds.length = w2 at h2 e
          cases h2 with
          | cons p t => cases t; exact ⟨ws.take ds.length, _, e.symm, h1, p⟩
        refine ⟨_, rfl, ?_⟩
        refine ⟨_, rfl, p, ws, rfl, SqL.of (s2 _ _ hp), fun p2 np2 => ?_⟩
        have s3 := s2.trans (Same.new (o := .lst (cutV ws none (some (-1)))) np2)
        refine ⟨1, rfl, p, ws, -1, v, rfl, rfl, SqL.of (s3 _ _ hp), by rw [ews]; exact atI_last _ _, line_ge (by simp), fun p3 np3 => ⟨line_ge (by simp), fun p4 np4 => ?_⟩⟩
        have s4 := (s3.trans (Same.new (o := .tup [.str "not", v]) np3)).trans (Same.new (o := .lst [.ref p3]) np4)
        have hgc := hg.ok c (by rw [ecs]; simp)
        rw [ecs, sizes_app] at hsz
        rw [ecs, wgts_app] at hwg
        simp only [Cond.sizes, Cond.wgts] at hsz hwg
        refine fin _ p2 p4 us ds (.ref p3) (.not c) s4 ?_ upd_same (pu.mono (T := fun _ => False) (Same.imm s4)) ?_ (fun x hx => by rw [ecs]; exact List.mem_append_left _ hx) hgc.1 (by rw [Cond.within]; exact hgc.2) (by rw [Cond.size]; omega) (by rw [Cond.wgt]; omega)
        · have e : upd (upd H2 z (.lst [])) p2 (.lst (cutV ws none (some (-1)))) p2 = some (.lst us) := by
            rw [upd_same, cutV_last, ews, List.dropLast_concat]
          exact ((Same.new np3).trans (Same.new np4)) _ _ e
        · exact .not (Same.new np4 _ _ upd_same) (pv.mono (T := fun _ => False) (Same.imm s4))
    rintro σ' H3 ⟨rfl, s2⟩
    refine ⟨fun σ' H' => σ' = [some (.ref p), some (.int m), some (.ref q), some (.int kind), some (.int more), none] ∧ Same H H', ?_, ?_⟩
    · walk_at "rd"
      refine ite2 (fun _ => ⟨ws, .inl (SqL.of (s2 _ _ hp)), ?_⟩) (fun _ => s2)
      refine ite2 (fun hge => ?_) (fun _ => s2)
      have hge' : 1 < ws.length := by
        have := of_decide_eq_true hge
        omega
      have r0 := Int.emod_nonneg more (show (3 : Int) ≠ 0 by decide)
      have r1 := Int.emod_lt_of_pos more (show (0 : Int) < 3 by decide)
      obtain ⟨a, ea, ha⟩ : ∃ a : Nat, (if (ws.length : Int) - 2 - more % 3 > 0 then (ws.length : Int) - 2 - more % 3 else 0) = (a : Int) ∧ a + 2 ≤ ws.length := by
        split
        · exact ⟨((ws.length : Int) - 2 - more % 3).toNat, by omega, by omega⟩
        · exact ⟨0, rfl, by omega⟩
      refine ⟨ws, .inl (SqL.of (s2 _ _ hp)), _, _, ⟨rfl, rfl⟩, ?_⟩
      rw [ea]
      refine slL_to a rfl (SqL.of (s2 _ _ hp)) fun p2 np2 => ⟨line_ge (by simp), fun p3 np3 => ?_⟩
      have s3 := (s2.trans (Same.new (o := .lst (ws.take a)) np2)).trans (Same.new (o := .lst [.str "and", .str "or"]) np3)
      have h20 := Int.emod_nonneg (more / 3) (show (2 : Int) ≠ 0 by decide)
      have h21 := Int.emod_lt_of_pos (more / 3) (show (0 : Int) < 2 by decide)
      obtain ⟨y, hy, hya⟩ := atI_ex (xs := [V.str "and", .str "or"]) h20 h21
      obtain ⟨b, rfl⟩ : ∃ b, y = .str (word b) := by
        simp only [List.mem_cons, List.not_mem_nil, or_false] at hy
        rcases hy with rfl | rfl
        · exact ⟨true, rfl⟩
        · exact ⟨false, rfl⟩
      refine ⟨p3, _, _, _, rfl, rfl, SqL.of upd_same, hya, line_ge (by simp), fun p4 np4 => ?_⟩
      have s4 := s3.trans (Same.new (o := .tup [.str (word b)]) np4)
      refine slL_from a rfl (SqL.of (s4 _ _ hp)) fun p5 np5 => ⟨p5, rfl, _, .inl ⟨SqL.of upd_same, fun p6 np6 => ?_⟩⟩
      have hdl : (ws.drop a).length = ws.length - a := by rw [List.length_drop]
      have s6 := Same.new (o := .tup (ws.drop a)) np6
      have s5 := (s4.trans (Same.new (o := .lst (ws.drop a)) np5)).trans s6
      have h4 := s6 _ _ (Same.new (o := .lst (ws.drop a)) np5 _ _ (upd_same (o := .tup [.str (word b)])))
      refine ⟨p4, p6, [.str (word b)], ws.drop a, rfl, rfl, SqT.of h4, SqT.of upd_same, by simp, line_ge (by simp; omega), fun e => ?_, fun _ p7 np7 => ⟨line_ge (by simp), fun p8 np8 => ?_⟩⟩
      · rw [e] at hdl
        simp at hdl
        omega
      · have s7 := (s5.trans (Same.new (o := .tup ([.str (word b)] ++ ws.drop a)) np7)).trans (Same.new (o := .lst [.ref p7]) np8)
        have pd := ps.drop a
        have hcd : (cs.drop a).length = cs.length - a := by rw [List.length_drop]
        have ecs := List.take_append_drop a cs
        have hsz' := hsz
        have hwg' := hwg
        rw [← ecs, sizes_app] at hsz'
        rw [← ecs, wgts_app] at hwg'
        refine fin _ p2 p8 (ws.take a) (cs.take a) (.ref p7) (.grp b (cs.drop a)) s7 ?_ upd_same ((ps.take _).mono (T := fun _ => False) (Same.imm s7)) (.grp (Same.new np8 _ _ upd_same) (pd.mono (T := fun _ => False) (Same.imm s7))) (fun x hx => List.mem_of_mem_take hx) ?_ ?_ (by rw [Cond.size]; omega) (by rw [Cond.wgt]; omega)
        · have q := ((((((Same.new (o := .lst [.str "and", .str "or"]) np3).trans (Same.new (o := .tup [.str (word b)]) np4)).trans (Same.new (o := .lst (ws.drop a)) np5)).trans s6).trans (Same.new (o := .tup ([.str (word b)] ++ ws.drop a)) np7)).trans (Same.new (o := .lst [.ref p7]) np8))
          exact q _ _ upd_same
        · rw [Cond.ok, oks_of fun c hc => (hg.ok c (List.mem_of_mem_drop hc)).1, decide_eq_true (by omega)]
          rfl
        · rw [Cond.within]
          exact Cond.withins_of fun c hc => (hg.ok c (List.mem_of_mem_drop hc)).2
    rintro σ' H5 ⟨rfl, s5⟩
    walk_at "rd"
    have hll := hn.len
    have h50 := Int.emod_nonneg more (show ((l.length : Nat) : Int) ≠ 0 by omega)
    have h51 := Int.emod_lt_of_pos more (show (0 : Int) < (l.length : Nat) by omega)
    obtain ⟨y, hy, hya⟩ := atI_ex (xs := l.map V.str) h50 (by rw [List.length_map]; exact h51)
    obtain ⟨nm, hnm, rfl⟩ := List.mem_map.mp hy
    refine ⟨_, .inl (SqL.of (s5 _ _ hn.at_)), by rw [List.length_map]; omega, ?_⟩
    rw [List.length_map]
    refine ⟨q, l.map V.str, _, _, rfl, rfl, SqL.of (s5 _ _ hn.at_), hya, line_ge (by simp), fun p2 np2 => ⟨line_ge (by simp), fun p3 np3 => ?_⟩⟩
    have s6 := (s5.trans (Same.new (o := .tup [.str "contact", .str nm]) np2)).trans (Same.new (o := .lst [.ref p2]) np3)
    exact fin _ p p3 ws cs (.ref p2) (.contact nm) s6 (s6 _ _ hp) upd_same (ps.mono (T := fun _ => False) (Same.imm s6)) (.contact (Same.new np3 _ _ upd_same)) (fun x hx => hx) (hn.ok nm hnm) (by rw [Cond.within]; exact decide_eq_true hnm) (by rw [Cond.size]; omega) (by rw [Cond.wgt]; omega)
def spCondition : Sp := fun vs H Q _ => ∃ (q : Addr) (c : Int) (m d : Nat) (l : List Str), vs = [.int c, .int m, .ref q] ∧ m ≤ 5 ∧ NamesU H q l d ∧ 0 < d ∧
  ∀ (H' : Hp) (v : V) (c : Cond), Same H H' → IsT H' v c → c.ok = true → c.within l = true → c.size ≤ 14 → c.contacts.length ≤ 6 → Q v H'
theorem ok_condition (T : TGrown K mg) : FnAt P w K mg base CX0 "_law_condition" 3 ["_law_cell", "_law_many", "_law_names_here"] spCondition := by
  have G__law_mixed : FnAt P w K mg base CX0 "_law_mixed" 1 _ spMixed := ok_mixed T.cells
  have G__law_grown : FnAt P w K mg base CX0 "_law_grown" 2 _ spGrown := ok_grown T
  refine fnAt_ok T.d_condition sc__law_condition (fun vs H Q E h => ?_) (fun f cdv A outer s H vs Q E hr h => ?_)
  · obtain ⟨q, c, m, d, l, rfl, _⟩ := h; rfl
  · obtain ⟨q, c, m, d, l, rfl, hm, hn, hd0, k⟩ := h
    refine ⟨_, (pss_cons (ps_set (i := 3) sc__law_condition.nd rfl (by first | exact Or.inl rfl | exact Or.inr rfl) (pe_lst pa_nil))
        (pss_cons (ps_for PassesOwn.never rfl (pi_range1 rfl T.z_range (pa_cons (pv 1) pa_nil)) (pg_name (i := 4) sc__law_condition.nd rfl (by first | exact Or.inl rfl | exact Or.inr rfl)) (pss_one (ps_set (i := 3) sc__law_condition.nd rfl (by first | exact Or.inl rfl | exact Or.inr rfl) (pe_callF G__law_grown hr pass0 (pa_cons (pv 3) (pa_cons (pe_callF G__law_mixed hr pass0 (pa_cons (pv 0) (pa_cons (pe_op op_add pe_int (pv 4)) pa_nil))) (pa_cons (pv 2) pa_nil)))))))
        (pss_cons (ps_set (i := 5) sc__law_condition.nd rfl (by first | exact Or.inl rfl | exact Or.inr rfl) (pe_tup (pa_cons pe_str (pa_cons pe_bl pa_nil))))
        (C8.pss_cut (ps_if (pt_cmpR op_eq (pe_callB call_len_seq (by rfl) T.z_len PySem.boot_len (pa_cons (pv 3) pa_nil)) pe_int (nomark _)) (pss_one (ps_set (i := 5) sc__law_condition.nd rfl (by first | exact Or.inl rfl | exact Or.inr rfl) (pe_ix ix_list (pv 3) pe_int (fun _ _ => rfl)))) pss_nil)
        (C8.pss_cut (ps_if (pt_cmpR op_gt (pe_callB call_len_seq (by rfl) T.z_len PySem.boot_len (pa_cons (pv 3) pa_nil)) pe_int (nomark _)) (pss_one (ps_set (i := 5) sc__law_condition.nd rfl (by first | exact Or.inl rfl | exact Or.inr rfl) (pe_op op_catT (pe_tup (pa_cons pe_str pa_nil)) (pe_callTy call_tuple_of (by rfl) T.z_tuple (show PySem.bootBuiltins "tuple" = some (.type "tuple") by decide +kernel) (pa_cons (pv 3) pa_nil))))) pss_nil)
        (pss_cons (ps_set (i := 6) sc__law_condition.nd rfl (by first | exact Or.inl rfl | exact Or.inr rfl) (pe_op op_mod (pe_op op_fdiv (pe_callF G__law_mixed hr pass0 (pa_cons (pv 0) (pa_cons pe_int pa_nil))) pe_int) pe_int))
        (C8.pss_cut (ps_if (pt_cmpR op_eq (pv 6) pe_int (nomark _)) (pss_one (ps_ret (pe_tup (pa_cons pe_str (pa_cons (pv 5) (pa_cons (pe_tup (pa_cons pe_str (pa_cons (pv 5) pa_nil))) pa_nil)))))) pss_nil)
        (C8.pss_cut (ps_if (pt_cmpR op_eq (pv 6) pe_int (nomark _)) (pss_one (ps_ret (pe_tup (pa_cons pe_str (pa_cons (pe_tup (pa_cons pe_str (pa_cons (pv 5) pa_nil))) (pa_cons (pv 5) pa_nil)))))) pss_nil)
        (C8.pss_cut (ps_if (pt_cmpR op_eq (pv 6) pe_int (nomark _)) (pss_one (ps_ret (pe_tup (pa_cons pe_str (pa_cons (pe_tup (pa_cons pe_str (pa_cons (pv 5) pa_nil))) pa_nil))))) pss_nil)
        (C8.pss_cut (ps_if (pt_cmpR op_eq (pv 6) pe_int (nomark _)) (pss_one (ps_ret (pe_tup (pa_cons pe_str (pa_cons (pv 5) (pa_cons (pv 5) pa_nil)))))) pss_nil)
        (pss_one (ps_ret (pv 5))))))))))))), ?_⟩
    walk_at "rd"
    refine ⟨Nat.zero_le _, fun p0 np0 => ?_⟩
    refine ⟨_, rfl, _, rfl, by omega, by omega, for_range (lo := 0) (n := m) (fun j σ H' => ∃ (v4 : Option V) (p : Addr) (ws : List V) (cs : List Cond), σ = [some (.int c), some (.int m), some (.ref q), some (.ref p), v4, none, none] ∧ Same H H' ∧ H' p = some (.lst ws) ∧ IsTs H' ws cs ∧ Pile l j cs)
      ⟨none, p0, [], [], rfl, Same.new np0, upd_same, .nil, Pile.nil⟩ ?_ ?_⟩
    · rintro j σ H1 hj ⟨v5, p, ws, cs, rfl, s1, hp, pt, hg⟩
      walk_at "rd"
      exact ⟨_, _, rfl, p, q, _, ws, cs, l, j, d, rfl, hp, pt, hg, by omega, hn.keep s1, hd0, fun H2 p2 ws2 cs2 s2 _ hp2 pt2 hg2 => ⟨_, _, ⟨rfl, rfl⟩, s1.trans s2, ws2, hp2, cs2, pt2, hg2⟩⟩
    rintro σ H1 ⟨v5, p, ws, cs, rfl, s1, hp, pt, hg⟩
    walk_at "rd"
    refine ⟨line_ge (by simp), fun pf npf => ?_⟩
    have hlen := pt.length
    have hcl := hg.len
    have hsz := hg.sz
    have t1 := Same.new (o := .tup [V.str "fixed", V.bl true]) npf
    refine ⟨fun σ' H' => ∃ (v : V) (c' : Cond), σ' = [some (.int c), some (.int m), some (.ref q), some (.ref p), v5, some v, none] ∧ Same H1 H' ∧ IsT H' v c' ∧ c'.ok = true ∧ c'.within l = true ∧ c'.size ≤ 6, ?_, ?_⟩
    · walk_at "rd"
      refine ⟨ws, .inl (SqL.of (t1 _ _ hp)), ite2 (fun h1 => ?_) (fun _ => ⟨t1, .fixed true, .fixed upd_same, rfl, rfl, by rw [Cond.size]; decide⟩)⟩
      have h1 : ws.length = 1 := by
        have := of_decide_eq_true h1
        first | omega | (simp only [V.int.injEq] at this; omega)
      obtain ⟨v, hv⟩ : ∃ v, ws[0]? = some v := ⟨_, List.getElem?_eq_getElem (by omega)⟩
      obtain ⟨c', hc', pc⟩ := pt.at hv
      have hg' := hg.ok c' (List.mem_of_getElem? hc')
      have hz := Cond.size_mem (List.mem_of_getElem? hc')
      exact ⟨p, ws, 0, v, rfl, rfl, SqL.of (t1 _ _ hp), atI_int (by decide) hv, t1, c', pc.mono (T := fun _ => False) (Same.imm t1), hg'.1, hg'.2, by omega⟩
    rintro σ' H2 ⟨v, c', rfl, s12, pv, ok1, wi1, sz1⟩
    refine ⟨fun σ' H' => ∃ (v : V) (c' : Cond), σ' = [some (.int c), some (.int m), some (.ref q), some (.ref p), v5, some v, none] ∧ Same H1 H' ∧ IsT H' v c' ∧ c'.ok = true ∧ c'.within l = true ∧ c'.size ≤ 6, ?_, ?_⟩
    · walk_at "rd"
      refine ⟨ws, .inl (SqL.of (s12 _ _ hp)), ite2 (fun h1 => ?_) (fun _ => ⟨s12, c', pv, ok1, wi1, sz1⟩)⟩
      have h1 : 1 < ws.length := by have := of_decide_eq_true h1; omega
      refine ⟨line_ge (by simp), fun p1 np1 => ⟨ws, .inl ⟨SqL.of (Same.new np1 _ _ (s12 _ _ hp)), fun p2 np2 => ?_⟩⟩⟩
      have t1 := Same.new (o := .tup [.str "and"]) np1
      have t2 := Same.new (o := .tup ws) np2
      refine ⟨p1, p2, [.str "and"], ws, rfl, rfl, SqT.of (t2 _ _ upd_same), SqT.of upd_same, by simp, line_ge (by simp; omega), fun e => by rw [e] at h1; simp at h1, fun _ p3 np3 => ?_⟩
      have t3 := (s12.trans (t1.trans t2)).trans (Same.new (o := .tup ([.str "and"] ++ ws)) np3)
      refine ⟨t3, .grp true cs, .grp upd_same (pt.mono (T := fun _ => False) (Same.imm t3)), ?_, ?_, by rw [Cond.size]; omega⟩
      · rw [Cond.ok, oks_of fun c hc => (hg.ok c hc).1, decide_eq_true (by omega)]
        rfl
      · rw [Cond.within]
        exact Cond.withins_of fun c hc => (hg.ok c hc).2
    rintro σ' H3 ⟨v, c', rfl, s13, pv, ok1, wi1, sz1⟩
    walk_at "rd"
    refine ⟨_, _, rfl, _, rfl, ?_⟩
    have self1 : c'.within c'.contacts = true := within_self c'
    have fin : ∀ (H' : Hp) (v2 : V) (c2 : Cond), Same H1 H' → IsT H' v2 c2 → c2.ok = true → (∀ g, c'.within g = true → c2.within g = true) → c2.size ≤ 14 → Q v2 H' := fun H' v2 c2 s p ok w z =>
      k H' v2 c2 (s1.trans s) p ok (w l wi1) z (Nat.le_trans (contacts_le (w _ self1)) (Nat.le_trans (contacts_size c') sz1))
    have self3 : Same H3 H3 := Same.refl _
    refine ⟨fun σ' H' => σ' = [some (.int c), some (.int m), some (.ref q), some (.ref p), v5, some v, some (.int (mixed c 5 / 7 % 8))] ∧ Same H3 H', ?_, ?_⟩
    · walk_at "rd"
      refine ite2 (fun _ => ⟨line_ge (by simp), fun p2 np2 => ⟨line_ge (by simp), fun p3 np3 => ?_⟩⟩) (fun _ => self3)
      have t1 := Same.new (o := .tup [.str "not", v]) np2
      have t2 := Same.new (o := .tup [.str "and", v, .ref p2]) np3
      have sF := (s13.trans self3).trans (t1.trans t2)
      have pF := pv.mono (T := fun _ => False) (Same.imm (self3.trans (t1.trans t2)))
      refine fin _ (.ref p3) (.grp true [c', .not c']) sF (.grp upd_same (.cons pF (.cons (.not (t2 _ _ upd_same) pF) .nil))) ?_ (fun g hg => ?_) ?_
      · simp [Cond.ok, Cond.oks, ok1]
      · simp [Cond.within, Cond.withins, hg]
      · simp [Cond.size, Cond.sizes]; omega
    rintro σ' H4 ⟨rfl, g4⟩
    refine ⟨fun σ' H' => σ' = [some (.int c), some (.int m), some (.ref q), some (.ref p), v5, some v, some (.int (mixed c 5 / 7 % 8))] ∧ Same H3 H', ?_, ?_⟩
    · walk_at "rd"
      refine ite2 (fun _ => ⟨line_ge (by simp), fun p2 np2 => ⟨line_ge (by simp), fun p3 np3 => ?_⟩⟩) (fun _ => g4)
      have t1 := Same.new (o := .tup [.str "not", v]) np2
      have t2 := Same.new (o := .tup [.str "or", .ref p2, v]) np3
      have sF := (s13.trans g4).trans (t1.trans t2)
      have pF := pv.mono (T := fun _ => False) (Same.imm (g4.trans (t1.trans t2)))
      refine fin _ (.ref p3) (.grp false [.not c', c']) sF (.grp upd_same (.cons (.not (t2 _ _ upd_same) pF) (.cons pF .nil))) ?_ (fun g hg => ?_) ?_
      · simp [Cond.ok, Cond.oks, ok1]
      · simp [Cond.within, Cond.withins, hg]
      · simp [Cond.size, Cond.sizes]; omega
    rintro σ' H5 ⟨rfl, g5⟩
    refine ⟨fun σ' H' => σ' = [some (.int c), some (.int m), some (.ref q), some (.ref p), v5, some v, some (.int (mixed c 5 / 7 % 8))] ∧ Same H3 H', ?_, ?_⟩
    · walk_at "rd"
      refine ite2 (fun _ => ⟨line_ge (by simp), fun p2 np2 => ⟨line_ge (by simp), fun p3 np3 => ?_⟩⟩) (fun _ => g5)
      have t1 := Same.new (o := .tup [.str "not", v]) np2
      have t2 := Same.new (o := .tup [.str "not", .ref p2]) np3
      have sF := (s13.trans g5).trans (t1.trans t2)
      have pF := pv.mono (T := fun _ => False) (Same.imm (g5.trans (t1.trans t2)))
      refine fin _ (.ref p3) (.not (.not c')) sF (.not upd_same (.not (t2 _ _ upd_same) pF)) ?_ (fun g hg => ?_) ?_
      · simp [Cond.ok, ok1]
      · simp [Cond.within, hg]
      · simp [Cond.size]; omega
    rintro σ' H6 ⟨rfl, g6⟩
    refine ⟨fun σ' H' => σ' = [some (.int c), some (.int m), some (.ref q), some (.ref p), v5, some v, some (.int (mixed c 5 / 7 % 8))] ∧ Same H3 H', ?_, ?_⟩
    · walk_at "rd"
      refine ite2 (fun _ => ⟨line_ge (by simp), fun p3 np3 => ?_⟩) (fun _ => g6)
      have t2 := Same.new (o := .tup [.str "or", v, v]) np3
      have sF := (s13.trans g6).trans t2
      have pF := pv.mono (T := fun _ => False) (Same.imm (g6.trans t2))
      refine fin _ (.ref p3) (.grp false [c', c']) sF (.grp upd_same (.cons pF (.cons pF .nil))) ?_ (fun g hg => ?_) ?_
      · simp [Cond.ok, Cond.oks, ok1]
      · simp [Cond.within, Cond.withins, hg]
      · simp [Cond.size, Cond.sizes]; omega
    rintro σ' H7 ⟨rfl, g7⟩
    walk_at "rd"
    exact fin _ v c' (s13.trans g7) (pv.mono (T := fun _ => False) (Same.imm g7)) ok1 (fun g h => h) (by omega)
end

--%% MG
/-! ## ends, rungs and ladders: made -/
def Rg.ok (r : Rg) : Prop := r.c.ok = true ∧ r.c.size ≤ 60 ∧ r.c.depth ≤ 20 ∧ isName r.e.n = true ∧ 1 ≤ r.e.m ∧ r.e.m ≤ 9
section
variable {P : Program} {w : World} {K : PySem.W.Frag} {mg : Str → Option Value} {base : Heap} {cs : Cs} {cc : Addr} {xc : Xc}
/-- what making asks, where nothing is refused -/
theorem mk_enC {ce : Ce} {H : Hp} {x dx : Addr} {k : Ek} {n : Str} {m : Int} {Q : VK} (nx : H x = none) (nd : H dx = none) (hk : k.counts = false) (hn : isName n = true) (q : ∀ H' : Hp, Same H H' → IsE ce H' (.ref x) ⟨k, n, m⟩ → Q .non H') :
    spInitEn ce xc (.ref x :: ([.str n] ++ [])) (upd (upd H dx (.own x)) x (.ins (ce.at k) dx [])) Q E0 :=
  ⟨x, dx, k, n, rfl, upd_same, line_ge (by have := isName_len' hn; omega), fun _ H' h1 h2 => q H' (fun c o e => h2 c o (same_mkE nx nd c o e) (ne_of_none e nx)) ⟨x, dx, rfl, by unfold EndC.fs; rw [hk]; exact h1⟩, fun h => by rw [hn] at h; cases h⟩
theorem mk_coC {ce : Ce} {H : Hp} {x dx : Addr} {k : Ek} {n : Str} {m : Int} {Q : VK} (nx : H x = none) (nd : H dx = none) (hk : k.counts = true) (hn : isName n = true) (m1 : 1 ≤ m) (m9 : m ≤ 9) (q : ∀ H' : Hp, Same H H' → IsE ce H' (.ref x) ⟨k, n, m⟩ → Q .non H') :
    spInitCo ce xc (.ref x :: ([.str n, .int m] ++ [])) (upd (upd H dx (.own x)) x (.ins (ce.at k) dx [])) Q E0 :=
  ⟨x, dx, k, n, m, rfl, upd_same, hk, line_ge (by have := isName_len' hn; omega), fun _ _ _ H' h1 h2 => q H' (fun c o e => h2 c o (same_mkE nx nd c o e) (ne_of_none e nx)) ⟨x, dx, rfl, by unfold EndC.fs; rw [hk]; exact h1⟩, fun h => (by rw [hn] at h; cases h), fun _ z => absurd ⟨m1, m9⟩ z⟩
theorem mk_rgC {H : Hp} {x dx : Addr} {p q : V} {Q : VK} {E : XK} (nx : H x = none) (nd : H dx = none) (k : ∀ H' : Hp, Same H H' → H' x = some (.ins cs.rg dx [("part", p), ("end", q)]) → Q .non H') :
    spInitRg cs (.ref x :: ([p, q] ++ [])) (upd (upd H dx (.own x)) x (.ins cs.rg dx [])) Q E :=
  ⟨x, dx, p, q, rfl, upd_same, fun H' h1 h2 => k H' (fun c o e => h2 c o (same_mkE nx nd c o e) (ne_of_none e nx)) h1⟩
theorem lad_good {l : Lad} (h1 : l.fair = true) (h2 : l.named = true) : l.bad = none := by
  unfold Lad.bad
  rw [if_pos h2, if_pos h1]
theorem mk_ldC {H : Hp} {x dx i o r : Addr} {ws : List V} {l : Lad} {Q : VK} (nx : H x = none) (nd : H dx = none) (hi : Sq2 K H i (l.ins.map V.str)) (ho : Sq2 K H o (l.outs.map V.str)) (hr : Sq2 K H r ws) (ht : Two (IsR cs H) ws l.rs) (hf : l.fair = true) (hn : l.named = true)
    (k : ∀ H' : Hp, Same H H' → IsL K cs H' (.ref x) l → Q .non H') :
    spInitLd K cs xc (.ref x :: ([.ref i, .ref o, .ref r] ++ [])) (upd (upd H dx (.own x)) x (.ins cs.ld dx [])) Q E0 := by
  obtain ⟨f1, f2, f3, f4, f5, f6, f7, f8, f9⟩ := (fair_iff l).mp hf
  refine ⟨H, x, dx, i, o, r, ws, l, rfl, upd_same, same_mkE nx nd, nx, hi, ho, hr, ht, by omega, by omega, by omega, fun n h => ?_, fun _ H' s p => k H' s p, fun b h => ?_⟩
  · have := isName_len' (List.all_eq_true.mp hn n h)
    omega
  · rw [lad_good hf hn] at h
    cases h
end

/-! ### no count's name is borne twice -/
structure FitB (ct : Str → Prop) (rs : List Rg) (bn : List Str) : Prop where
  low : ∀ n, ¬ ct n → (bears n rs).any id = false
  high : ∀ n, ct n → (n ∉ bn ∧ bears n rs = []) ∨ (n ∈ bn ∧ bears n rs = [true])
section
variable {ct : Str → Prop} {rs : List Rg} {bn : List Str} {r : Rg}
theorem FitB.crowd (h : FitB ct rs bn) : crowd rs = false := by
  unfold My.crowd
  rw [← Bool.not_eq_true, List.any_eq_true]
  rintro ⟨r, _, hr⟩
  rw [Bool.and_eq_true, decide_eq_true_eq] at hr
  by_cases hn : ct r.e.n
  · rcases h.high r.e.n hn with ⟨_, e⟩ | ⟨_, e⟩ <;> rw [e] at hr <;> simp at hr
  · rw [h.low _ hn] at hr
    exact nomatch hr.2
theorem FitB.un (h : FitB ct rs bn) (hk : r.e.k = .unlatch) : FitB ct (rs ++ [r]) bn := by
  have e : ∀ n, bears n (rs ++ [r]) = bears n rs := fun n => by rw [bears_snoc, if_neg (by rw [decide_eq_true hk]; simp)]
  exact ⟨fun n hn => by rw [e]; exact h.low n hn, fun n hn => by rw [e]; exact h.high n hn⟩
theorem FitB.plain (h : FitB ct rs bn) (hn : ¬ ct r.e.n) (hk : r.e.k.counts = false) : FitB ct (rs ++ [r]) bn := by
  refine ⟨fun n hl => ?_, fun n hl => ?_⟩
  · rw [bears_snoc]
    split
    · rw [List.any_append, h.low n hl]
      simp [hk]
    · exact h.low n hl
  · have e : ¬ r.e.n = n := fun q => hn (q ▸ hl)
    rw [bears_snoc, if_neg (by rw [decide_eq_false e]; simp)]
    exact h.high n hl
theorem FitB.count (h : FitB ct rs bn) (hn : ct r.e.n) (hb : r.e.n ∉ bn) (hk : r.e.k.counts = true) : FitB ct (rs ++ [r]) (bn ++ [r.e.n]) := by
  have hu : r.e.k ≠ .unlatch := fun q => by rw [q] at hk; cases hk
  refine ⟨fun n hl => ?_, fun n hl => ?_⟩
  · have e : ¬ r.e.n = n := fun q => hl (q ▸ hn)
    rw [bears_snoc, if_neg (by rw [decide_eq_false e]; simp)]
    exact h.low n hl
  · by_cases e : r.e.n = n
    · subst e
      refine .inr ⟨by simp, ?_⟩
      rw [bears_snoc, if_pos (by rw [decide_eq_true rfl, decide_eq_false hu]; rfl)]
      rcases h.high _ hl with ⟨_, e⟩ | ⟨q, _⟩
      · rw [e, hk]; rfl
      · exact absurd q hb
    · rw [bears_snoc, if_neg (by rw [decide_eq_false e]; simp)]
      rcases h.high n hl with ⟨q1, q2⟩ | ⟨q1, q2⟩
      · exact .inl ⟨by simp [q1]; exact fun z => e z.symm, q2⟩
      · exact .inr ⟨List.mem_append_left _ q1, q2⟩
end

--%% MH
/-! ## k41: the ladder -/
abbrev s__law_end : Stmt := top 60
theorem sc__law_end : FnScope ["_law_name", "_law_kind", "_law_number", "_law_cell"] ["_law_name", "_law_kind", "_law_number", "_law_cell"] (defScope s__law_end) := ⟨rfl, rfl, rfl, by decide +kernel, rfl, by decide +kernel, by decide +kernel⟩
abbrev s__law_ladder_by : Stmt := top 61
theorem sc__law_ladder_by : FnScope ["_law_script", "_law_first", "_law_cell", "_law_names_here", "_law_inputs", "_law_rungs", "_law_used", "_law_many", "_law_k", "_law_draw", "_law_name", "_law_kind", "_law_number", "_law_cell_of", "_law_told", "_law_borne", "_law_outputs"] ["_law_script", "_law_first"] (defScope s__law_ladder_by) := ⟨rfl, rfl, rfl, by decide +kernel, rfl, by decide +kernel, by decide +kernel⟩
structure TLadBy (K : PySem.W.Frag) (mg : Str → Option Value) (cs : Cs) (cc : Addr) (xc : Xc) : Prop where
  lad : TLad K mg cs cc xc
  pof : TPartOf K mg cs.cl
  grown : TGrown K mg
  d_end : DefAt K mg "_law_end" s__law_end ["_law_name", "_law_kind", "_law_number", "_law_cell"]
  d_ladder_by : DefAt K mg "_law_ladder_by" s__law_ladder_by ["_law_script", "_law_first"]
  z_range : mg "range" = none
  z_list : mg "list" = none
  z_int : mg "int" = none
theorem FitB.next {ct : Str → Prop} {rs : List Rg} {r : Rg} (h : FitB ct rs (writ rs)) (c : (¬ ct r.e.n ∧ r.e.k.counts = false) ∨ (ct r.e.n ∧ r.e.n ∈ writ rs ∧ r.e.k = .unlatch) ∨ (ct r.e.n ∧ r.e.n ∉ writ rs ∧ r.e.k.counts = true)) : FitB ct (rs ++ [r]) (writ (rs ++ [r])) := by
  rcases c with ⟨hn, hk⟩ | ⟨_, hm, hk⟩ | ⟨hn, hm, hk⟩
  · have h' := h.plain hn hk
    have e : ∀ n, ct n → (n ∈ writ (rs ++ [r]) ↔ n ∈ writ rs) := fun n hc => by
      rw [writ_snoc, addW_mem]
      exact ⟨fun z => z.elim id fun z => absurd (z ▸ hc) hn, .inl⟩
    exact ⟨h'.low, fun n hc => by rw [e n hc]; exact h'.high n hc⟩
  · rw [writ_snoc, show addW (writ rs) r.e.n = writ rs from if_pos hm]
    exact h.un hk
  · rw [writ_snoc, show addW (writ rs) r.e.n = writ rs ++ [r.e.n] from if_neg hm]
    exact h.count hn hm hk
theorem keysL_addW {α : Type} {u : List (Str × α)} {n : Str} {v : α} : keysL (putL u n v) = addW (keysL u) n := by
  unfold addW
  by_cases h : n ∈ keysL u
  · rw [if_pos h, keys_put h]
  · rw [if_neg h, keys_put_new h]
/-- the first ones and those behind the third -/
theorem names_part {H : Hp} {q p : Addr} {l : List Str} {i : Nat} (h : NamesU H q l 7) (hi : i ≤ 3) (hp : H p = some (.lst ((l.take i ++ l.drop 3).map V.str))) : NamesU H p (l.take i ++ l.drop 3) (i + 4) := by
  have hl := h.len
  have hs : (l.take i ++ l.drop 3).Sublist l := by
    have e : l.take i = (l.take 3).take i := by rw [List.take_take, Nat.min_eq_left hi]
    have := (List.take_sublist i (l.take 3)).append_right (l.drop 3)
    rw [List.take_append_drop, ← e] at this
    exact this
  refine ⟨hp, by rw [List.length_append, List.length_take, List.length_drop]; omega, fun n hn => h.ok n (hs.subset hn), h.nd.sublist hs, fun n hn => h.sm n (hs.subset hn)⟩
theorem part_apart {l : List Str} {i : Nat} (h : l.Nodup) (hi : i ≤ 3) {n : Str} (h1 : n ∈ l.take i) : n ∉ l.drop 3 := fun h2 => by
  have e := List.take_append_drop 3 l
  rw [← e, List.nodup_append] at h
  have h3 : n ∈ l.take 3 := by
    have e : l.take i = (l.take 3).take i := by rw [List.take_take, Nat.min_eq_left hi]
    rw [e] at h1
    exact List.mem_of_mem_take h1
  exact h.2.2 n h3 n h2 rfl
def EndTo4 (kd num : Int) (n : Str) (e : EndC) : Prop := e.n = n ∧ 1 ≤ e.m ∧ e.m ≤ 9 ∧ ((kd < 2 ∧ e.k.counts = false) ∨ (2 ≤ kd ∧ 0 < num ∧ e.k = .unlatch) ∨ (2 ≤ kd ∧ num ≤ 0 ∧ e.k.counts = true))
section
variable {P : Program} {w : World} {K : PySem.W.Frag} {mg : Str → Option Value} {base : Heap} {cs : Cs} {cc : Addr} {xc : Xc}
def spEnd4 (cs : Cs) : Sp := fun vs H Q _ => ∃ (n : Str) (kd num c : Int), vs = [.str n, .int kd, .int num, .int c] ∧ isName n = true ∧ ∀ (H' : Hp) (x : Addr) (e : EndC), Same H H' → IsE cs.ce H' (.ref x) e → EndTo4 kd num n e → Q (.ref x) H'
theorem ok_end4 (T : TLadBy K mg cs cc xc) : FnAt P w K mg base CX0 "_law_end" 6 ["_law_name", "_law_kind", "_law_number", "_law_cell"] (spEnd4 cs) := by
  have TE := T.lad.enk.ends
  have X := T.lad.exs
  have M_Coil := (init_en (P := P) (w := w) (base := base) TE X .coil TE.c_Coil TE.m_init_coil).calm
  have M_Latch := (init_en (P := P) (w := w) (base := base) TE X .latch TE.c_Latch TE.m_init_latch).calm
  have M_Unlatch := (init_en (P := P) (w := w) (base := base) TE X .unlatch TE.c_Unlatch TE.m_init_unlatch).calm
  have M_Timer := (init_co (P := P) (w := w) (base := base) TE X .timer TE.c_Timer TE.m_init_timer).calm
  have M_Counter := (init_co (P := P) (w := w) (base := base) TE X .counter TE.c_Counter TE.m_init_counter).calm
  refine fnAt_ok T.d_end sc__law_end (fun vs H Q E h => ?_) (fun f cdv A outer st H vs Q E hr h => ?_)
  · obtain ⟨n, kd, num, c, rfl, _⟩ := h; rfl
  · obtain ⟨n, kd, num, c, rfl, hnm, k⟩ := h
    refine ⟨_, (pss_cons (ps_if (pt_cmpR op_lt (pv 1) pe_int (nomark _)) (pss_one (ps_ret (pe_ix ix_list (pe_lst (pa_cons (pe_makeF M_Coil hr pass0 (pa_cons (pv 0) pa_nil)) (pa_cons (pe_makeF M_Latch hr pass0 (pa_cons (pv 0) pa_nil)) (pa_cons (pe_makeF M_Unlatch hr pass0 (pa_cons (pv 0) pa_nil)) (pa_cons (pe_makeF M_Latch hr pass0 (pa_cons (pv 0) pa_nil)) pa_nil))))) (pe_op op_mod (pv 3) pe_int) (fun _ _ => rfl)))) pss_nil)
        (pss_cons (ps_if (pt_cmpR op_gt (pv 2) pe_int (nomark _)) (pss_one (ps_ret (pe_makeF M_Unlatch hr pass0 (pa_cons (pv 0) pa_nil)))) pss_nil)
        (pss_cons (ps_if (pt_cmpR op_eq (pv 1) pe_int (nomark _)) (pss_one (ps_ret (pe_makeF M_Timer hr pass0 (pa_cons (pv 0) (pa_cons (pe_op op_add pe_int (pe_op op_mod (pe_op op_fdiv (pv 3) pe_int) pe_int)) pa_nil))))) pss_nil)
        (pss_one (ps_ret (pe_makeF M_Counter hr pass0 (pa_cons (pv 0) (pa_cons (pe_op op_add pe_int (pe_op op_mod (pe_op op_fdiv (pv 3) pe_int) pe_int)) pa_nil)))))))), ?_⟩
    walk_at "rd"
    have lt0 : ∀ {x y : Int}, decide (x < y) = false → y ≤ x := fun h => by have := of_decide_eq_false h; omega
    refine ite2 (fun hk => ?_) (fun hk => ?_)
    · have hk := of_decide_eq_true hk
      refine ⟨_, rfl, fun x1 d1 nx1 nd1 _ => mk_enC (k := .coil) (m := 1) nx1 nd1 rfl hnm fun H1 s1 p1 => ⟨rfl, _, rfl, fun x2 d2 nx2 nd2 _ => mk_enC (k := .latch) (m := 1) nx2 nd2 rfl hnm fun H2 s2 p2 => ⟨rfl, _, rfl, fun x3 d3 nx3 nd3 _ => mk_enC (k := .unlatch) (m := 1) nx3 nd3 rfl hnm fun H3 s3 p3 => ⟨rfl, _, rfl, fun x4 d4 nx4 nd4 _ => mk_enC (k := .latch) (m := 1) nx4 nd4 rfl hnm fun H4 s4 p4 => ⟨rfl, line_ge (by simp), fun pl npl => ?_⟩⟩⟩⟩⟩
      have t := Same.new (o := .lst [V.ref x1, .ref x2, .ref x3, .ref x4]) npl
      have c0 := Int.emod_nonneg c (show (4 : Int) ≠ 0 by decide)
      have c1 := Int.emod_lt_of_pos c (show (0 : Int) < 4 by decide)
      have go : ∀ (y : Addr) (kk : Ek), kk.counts = false → atI [V.ref x1, .ref x2, .ref x3, .ref x4] (c % 4) = some (.ref y) → IsE cs.ce (upd H4 pl (.lst [V.ref x1, .ref x2, .ref x3, .ref x4])) (.ref y) ⟨kk, n, 1⟩ → rIxL K (V.ref pl) (V.int (c % 4)) (upd H4 pl (.lst [V.ref x1, .ref x2, .ref x3, .ref x4])) Q := fun y kk hc hat pe =>
        ⟨pl, _, _, .ref y, rfl, rfl, SqL.of upd_same, hat, k _ y ⟨kk, n, 1⟩ ((((s1.trans s2).trans s3).trans s4).trans t) pe ⟨rfl, (show (1 : Int) ≤ 1 by decide), (show (1 : Int) ≤ 9 by decide), .inl ⟨hk, hc⟩⟩⟩
      rcases (show c % 4 = 0 ∨ c % 4 = 1 ∨ c % 4 = 2 ∨ c % 4 = 3 by omega) with e | e | e | e
      · exact go x1 .coil rfl (by rw [e]; rfl) (p1.mono (Same.imm (((s2.trans s3).trans s4).trans t)))
      · exact go x2 .latch rfl (by rw [e]; rfl) (p2.mono (Same.imm ((s3.trans s4).trans t)))
      · exact go x3 .unlatch rfl (by rw [e]; rfl) (p3.mono (Same.imm (s4.trans t)))
      · exact go x4 .latch rfl (by rw [e]; rfl) (p4.mono (Same.imm t))
    have hk2 : 2 ≤ kd := by
      by_cases z : kd < 2
      · exact absurd (decide_eq_true z) hk
      · omega
    refine ite2 (fun hn => ?_) (fun hn => ?_)
    · exact ⟨_, rfl, fun x1 d1 nx1 nd1 _ => mk_enC (k := .unlatch) (m := 1) nx1 nd1 rfl hnm fun H1 s1 p1 => ⟨rfl, k _ x1 _ s1 p1 ⟨rfl, (show (1 : Int) ≤ 1 by decide), (show (1 : Int) ≤ 9 by decide), .inr (.inl ⟨hk2, of_decide_eq_true hn, rfl⟩)⟩⟩⟩
    have hn2 : num ≤ 0 := by
      by_cases z : 0 < num
      · exact absurd (decide_eq_true z) hn
      · omega
    have m0 := Int.emod_nonneg (c / 4) (show (3 : Int) ≠ 0 by decide)
    have m1 := Int.emod_lt_of_pos (c / 4) (show (0 : Int) < 3 by decide)
    refine ite2 (fun _ => ?_) (fun _ => ?_)
    · exact ⟨_, rfl, _, rfl, _, _, rfl, rfl, (by unfold CDiv; decide), _, _, rfl, rfl, (show (0 : Int) < 3 by decide), _, _, rfl, rfl, fun x1 d1 nx1 nd1 _ => mk_coC (k := .timer) nx1 nd1 rfl hnm (by omega) (by omega) fun H1 s1 p1 => ⟨rfl, k _ x1 _ s1 p1 ⟨rfl, (show (1 : Int) ≤ 1 + c / 4 % 3 by omega), (show 1 + c / 4 % 3 ≤ 9 by omega), .inr (.inr ⟨hk2, hn2, rfl⟩)⟩⟩⟩
    · exact ⟨_, rfl, _, rfl, _, _, rfl, rfl, (by unfold CDiv; decide), _, _, rfl, rfl, (show (0 : Int) < 3 by decide), _, _, rfl, rfl, fun x1 d1 nx1 nd1 _ => mk_coC (k := .counter) nx1 nd1 rfl hnm (by omega) (by omega) fun H1 s1 p1 => ⟨rfl, k _ x1 _ s1 p1 ⟨rfl, (show (1 : Int) ≤ 1 + c / 4 % 3 by omega), (show 1 + c / 4 % 3 ≤ 9 by omega), .inr (.inr ⟨hk2, hn2, rfl⟩)⟩⟩⟩
def spLadBy (K : PySem.W.Frag) (cs : Cs) : Sp := fun vs H Q _ => ∃ (a : Addr) (script : List Int) (b : Nat), vs = [.ref a, .int b] ∧ SqL K H a (script.map V.int) ∧ script.length ≤ 1000 ∧
  ∀ (H' : Hp) (x : Addr) (l : Lad), Same H H' → H x = none → IsL K cs H' (.ref x) l → l.fair = true → (∀ r ∈ l.rs, r.ok ∧ r.c.size ≤ 14 ∧ r.c.contacts.length ≤ 6) → (∀ n ∈ l.ins ++ l.outs, isName n = true ∧ EndQ n) → (∀ r ∈ l.rs, EndQ r.e.n) → (writ l.rs).length ≤ 4 → Q (.ref x) H'
theorem ok_ladBy (T : TLadBy K mg cs cc xc) : FnAt P w K mg base CX0 "_law_ladder_by" 27 ["_law_script", "_law_first"] (spLadBy K cs) := by
  have G__law_cell_at : FnAt P w K mg base CX0 "_law_cell_at" 1 _ (spCellAt K) := ok_cell_at T.grown.cells
  have G__law_mixed : FnAt P w K mg base CX0 "_law_mixed" 1 _ spMixed := ok_mixed T.grown.cells
  have G__law_names : FnAt P w K mg base CX0 "_law_names" 3 _ spNamesQ := ok_namesQ T.grown.cells
  have G__law_condition := ok_condition (P := P) (w := w) (base := base) T.grown
  have G__law_end := ok_end4 (P := P) (w := w) (base := base) T
  have M_Ladder := (ok_init_ld (P := P) (w := w) (base := base) T.lad).calm
  have M_Rung := ok_init_rg (P := P) (w := w) (base := base) T.lad
  have G_part_of : FnAt P w K mg base CX0 "part_of" 26 _ (spPartOf cs.cl) := ok_part_of T.pof
  refine fnAt_ok T.d_ladder_by sc__law_ladder_by (fun vs H Q E h => ?_) (fun f cdv A outer st H vs Q E hr h => ?_)
  · obtain ⟨a, script, b, rfl, _⟩ := h; rfl
  · obtain ⟨a, script, b, rfl, hS, hlen, k⟩ := h
    have hu := hu_of hr
    refine ⟨_, (pss_cons (ps_set (i := 2) sc__law_ladder_by.nd rfl (by first | exact Or.inl rfl | exact Or.inr rfl) (pe_callF G__law_cell_at hr pass0 (pa_cons (pv 0) (pa_cons (pv 1) pa_nil))))
        (pss_cons (ps_set (i := 3) sc__law_ladder_by.nd rfl (by first | exact Or.inl rfl | exact Or.inr rfl) (pe_callF G__law_names hr pass0 (pa_cons (pe_callF G__law_cell_at hr pass0 (pa_cons (pv 0) (pa_cons (pe_op op_add (pv 1) pe_int) pa_nil))) (pa_cons pe_int pa_nil))))
        (pss_cons (ps_set (i := 4) sc__law_ladder_by.nd rfl (by first | exact Or.inl rfl | exact Or.inr rfl) (pe_slice sl_list (pv 3) po_none (po_some (pe_op op_mod (pv 2) pe_int))))
        (pss_cons (ps_set (i := 5) sc__law_ladder_by.nd rfl (by first | exact Or.inl rfl | exact Or.inr rfl) (pe_lst pa_nil))
        (pss_cons (ps_set (i := 6) sc__law_ladder_by.nd rfl (by first | exact Or.inl rfl | exact Or.inr rfl) pe_dnewK)
        (pss_cons (ps_set (i := 7) sc__law_ladder_by.nd rfl (by first | exact Or.inl rfl | exact Or.inr rfl) (pe_ix ix_list (pe_lst (pa_cons (pe_op op_add pe_int (pe_op op_mod (pe_op op_fdiv (pv 2) pe_int) pe_int)) (pa_cons (pe_op op_add pe_int (pe_op op_mod (pe_op op_fdiv (pv 2) pe_int) pe_int)) pa_nil))) (pe_callTy call_int1 (by rfl) T.z_int (show PySem.bootBuiltins "int" = some (.type "int") by decide +kernel) (pa_cons (pe_cmpR op_eq (pe_op op_mod (pe_op op_fdiv (pv 2) pe_int) pe_int) pe_int (nomark _)) pa_nil)) (fun _ _ => rfl)))
        (pss_cons (ps_for PassesOwn.never rfl (pi_range1 rfl T.z_range (pa_cons (pv 7) pa_nil)) (pg_name (i := 8) sc__law_ladder_by.nd rfl (by first | exact Or.inl rfl | exact Or.inr rfl)) (pss_cons (ps_set (i := 9) sc__law_ladder_by.nd rfl (by first | exact Or.inl rfl | exact Or.inr rfl) (pe_callF G__law_mixed hr pass0 (pa_cons (pe_callF G__law_cell_at hr pass0 (pa_cons (pv 0) (pa_cons (pe_op op_add (pe_op op_add (pv 1) pe_int) (pe_op op_mul pe_int (pe_op op_mod (pv 8) pe_int))) pa_nil))) (pa_cons (pv 8) pa_nil))))
          (pss_cons (ps_set (i := 10) sc__law_ladder_by.nd rfl (by first | exact Or.inl rfl | exact Or.inr rfl) (pe_ix ix_list (pv 3) (pe_op op_add pe_int (pe_op op_mod (pe_op op_fdiv (pv 9) pe_int) pe_int)) (fun _ _ => rfl)))
          (pss_cons (ps_set (i := 11) sc__law_ladder_by.nd rfl (by first | exact Or.inl rfl | exact Or.inr rfl) (pe_op op_mod (pe_op op_fdiv (pe_op op_fdiv (pv 2) pe_int) (pe_op op_add pe_int (pe_bm PySem.F.plainAttrs_list PySem.F.slot_list_index PySem.F.type_list_index mt_index (pv 3) (pa_cons (pv 10) pa_nil)))) pe_int))
          (pss_cons (ps_set (i := 12) sc__law_ladder_by.nd rfl (by first | exact Or.inl rfl | exact Or.inr rfl) (pe_dget2 hu (pv 6) (pv 10) pe_int (by constructor <;> rfl)))
          (pss_cons (ps_dput hu (pv 6) (pv 10) (pe_op op_add (pv 12) pe_int) rfl)
          (pss_cons (ps_set (i := 13) sc__law_ladder_by.nd rfl (by first | exact Or.inl rfl | exact Or.inr rfl) (pe_op op_add (pe_callF G__law_cell_at hr pass0 (pa_cons (pv 0) (pa_cons (pe_op op_add (pe_op op_add (pv 1) pe_int) (pe_op op_mul pe_int (pe_op op_mod (pv 8) pe_int))) pa_nil))) (pe_op op_mul pe_int (pv 8))))
          (pss_cons (ps_set (i := 14) sc__law_ladder_by.nd rfl (by first | exact Or.inl rfl | exact Or.inr rfl) (pe_callF G__law_condition hr pass0 (pa_cons (pv 13) (pa_cons (pe_op op_mod (pe_op op_fdiv (pv 9) pe_int) pe_int) (pa_cons (pe_op op_cat (pv 4) (pe_slice sl_list (pv 3) (po_some pe_int) po_none)) pa_nil)))))
          (pss_one (ps_expr (pe_bm PySem.F.plainAttrs_list PySem.F.slot_list_append PySem.F.type_list_append mt_append (pv 5) (pa_cons (pe_makeF M_Rung hr pass0 (pa_cons (pe_callF G_part_of hr pass0 (pa_cons (pv 14) pa_nil)) (pa_cons (pe_callF G__law_end hr pass0 (pa_cons (pv 10) (pa_cons (pv 11) (pa_cons (pv 12) (pa_cons (pe_op op_fdiv (pv 9) pe_int) pa_nil))))) pa_nil))) pa_nil))))))))))))
        (pss_cons (ps_set (i := 15) sc__law_ladder_by.nd rfl (by first | exact Or.inl rfl | exact Or.inr rfl) (pe_lstKeys T.z_list (pv 6)))
        (pss_cons (ps_set (i := 16) sc__law_ladder_by.nd rfl (by first | exact Or.inl rfl | exact Or.inr rfl) (pe_slice sl_list (pv 15) po_none (po_some (pe_op op_add pe_int (pe_op op_mod (pe_op op_fdiv (pv 2) pe_int) pe_int)))))
        (pss_one (ps_ret (pe_makeF M_Ladder hr pass0 (pa_cons (pv 4) (pa_cons (pv 16) (pa_cons (pv 5) pa_nil))))))))))))))), ?_⟩
    walk_at "rd"
    have nn : ∀ (i : Int) (n : Int), 0 < n → 0 ≤ i % n ∧ i % n < n := fun i n h => ⟨Int.emod_nonneg _ (by omega), Int.emod_lt_of_pos _ h⟩
    refine ⟨a, script, _, rfl, hS, by omega, by omega, a, script, _, rfl, hS, by omega, by omega, _, 7, rfl, by decide, fun H1 q l s1 nq hn hnq => ⟨_, rfl, ?_⟩⟩
    generalize hcell : cellC script (b : Int) = cell
    have hll := hn.len
    have hS1 := Same.seq s1 hS
    obtain ⟨ni, hni, hni3⟩ : ∃ ni : Nat, cell % 4 = (ni : Int) ∧ ni ≤ 3 := by
      have := nn cell 4 (by decide)
      exact ⟨(cell % 4).toNat, by omega, by omega⟩
    rw [hni]
    refine slL_to ni rfl (SqL.of hn.at_) fun pi npi => ⟨Nat.zero_le _, fun pr npr => ?_⟩
    have t1 := Same.new (o := .lst ((l.map V.str).take ni)) npi
    have t2 := Same.new (o := .lst []) npr
    have hpi := t2 _ _ (upd_same (H := H1) (a := pi) (o := .lst ((l.map V.str).take ni)))
    have hpr := upd_same (H := upd H1 pi (.lst ((l.map V.str).take ni))) (a := pr) (o := .lst [])
    have s12 := t1.trans t2
    have npr1 : H1 pr = none := t1.free npr
    have npip : pi ≠ pr := fun e => by rw [← e, upd_same] at npr; cases npr
    generalize upd (upd H1 pi (.lst ((l.map V.str).take ni))) pr (.lst []) = H2 at s12 hpi hpr ⊢
    intro d nd
    have nd1 : H1 d = none := s12.free nd
    have s23 := Same.new (o := .dK []) nd
    have hd3 := upd_same (H := H2) (a := d) (o := .dK [])
    have hpi3 := s23 _ _ hpi
    have hpr3 := s23 _ _ hpr
    have s13 := s12.trans s23
    have npd : pr ≠ d := fun e => by rw [← e, hpr] at nd; cases nd
    refine ⟨_, rfl, _, rfl, line_ge (by simp), fun p2 np2 => ⟨_, rfl, ?_⟩⟩
    have s34 := Same.new (o := .lst [V.int (1 + cell / 4 % 8), V.int (9 + cell / 4 % 22)]) np2
    obtain ⟨many, hmany, hm1, hm30⟩ : ∃ many : Nat, atI [V.int (1 + cell / 4 % 8), V.int (9 + cell / 4 % 22)] (if decide (cell / 176 % 5 = 1) = true then 1 else 0) = some (.int (many : Int)) ∧ 1 ≤ many ∧ many ≤ 30 := by
      have h8 := nn (cell / 4) 8 (by decide)
      have h22 := nn (cell / 4) 22 (by decide)
      split
      · exact ⟨(9 + cell / 4 % 22).toNat, by rw [Int.toNat_of_nonneg (by omega)]; rfl, by omega, by omega⟩
      · exact ⟨(1 + cell / 4 % 8).toNat, by rw [Int.toNat_of_nonneg (by omega)]; rfl, by omega, by omega⟩
    refine ⟨p2, _, _, .int (many : Int), rfl, rfl, SqL.of upd_same, hmany, ?_⟩
    have hpi4 := s34 _ _ hpi3
    have hpr4 := s34 _ _ hpr3
    have hd4 := s34 _ _ hd3
    have s14 := s13.trans s34
    generalize upd (upd H2 d (.dK [])) p2 (.lst [V.int (1 + cell / 4 % 8), V.int (9 + cell / 4 % 22)]) = H4 at s14 hpi4 hpr4 hd4 ⊢
    clear s34 s13 s23 s12 hpi3 hpr3 hd3 hpi hpr t1 t2 np2 npi npr nd hmany
    let kd : Str → Int := fun n => cell / 32 / (1 + (ixOf l n : Nat)) % 4
    refine ⟨_, rfl, _, rfl, by omega, by omega, for_range (lo := 0) (n := many) (fun i σ H' => ∃ (v8 v9 v10 v11 v12 v13 v14 : Option V) (ws : List V) (rs : List Rg) (u : List (Str × Int)), σ = [some (.ref a), some (.int b), some (.int cell), some (.ref q), some (.ref pi), some (.ref pr), some (.ref d), some (.int (many : Int)), v8, v9, v10, v11, v12, v13, v14, none, none] ∧ Same H1 H' ∧ H' pi = some (.lst ((l.take ni).map V.str)) ∧ H' pr = some (.lst ws) ∧ H' d = some (.dK (dL V.int u)) ∧ Two (IsR cs H') ws rs ∧ rs.length = i ∧ keysL u = writ rs ∧ (∀ n k, getL u n = some k → 0 < k) ∧ FitB (fun n => 2 ≤ kd n) rs (writ rs) ∧ ∀ r ∈ rs, r.ok ∧ r.c.size ≤ 14 ∧ r.c.contacts.length ≤ 6 ∧ r.e.n ∈ l.drop 3)
      ⟨none, none, none, none, none, none, none, [], [], [], rfl, s14, by rw [List.map_take]; exact hpi4, hpr4, hd4, .nil, rfl, rfl, (by intro n k h; cases h), ⟨fun n _ => rfl, fun n _ => .inl ⟨by simp [writ], rfl⟩⟩, by simp⟩ ?_ ?_⟩
    · rintro i σ H5 hi ⟨v8, v9, v10, v11, v12, v13, v14, ws, rs, u, rfl, s5, hpi5, hpr5, hd5, htw, hrl, hkeys, hpos, hfit, hall⟩
      walk_at "rd"
      have hS5 := Same.seq s5 hS1
      have hq5 := s5 _ _ hn.at_
      refine ⟨a, script, _, rfl, hS5, by omega, by omega, _, _, rfl, _, rfl, ?_⟩
      generalize mixed (cellC script ((b : Int) + 2 + 2 * ((0 + (i : Int)) % 8))) (0 + (i : Int)) = draw
      obtain ⟨j, hj, hj7, hj3⟩ : ∃ j : Nat, 3 + draw / 3 % 4 = (j : Int) ∧ j < 7 ∧ 3 ≤ j := by
        have := nn (draw / 3) 4 (by decide)
        exact ⟨(3 + draw / 3 % 4).toNat, by omega, by omega, by omega⟩
      rw [hj]
      obtain ⟨n, hjn⟩ : ∃ n, l[j]? = some n := ⟨_, List.getElem?_eq_getElem (by omega)⟩
      have hnl := List.mem_of_getElem? hjn
      have hnd3 : n ∈ l.drop 3 := by
        refine List.mem_iff_getElem?.mpr ⟨j - 3, ?_⟩
        rw [List.getElem?_drop, show 3 + (j - 3) = j by omega]
        exact hjn
      have hxx := ixOf_at hnl
      have hix : ixOf l n < 7 := by have := (List.getElem?_eq_some_iff.mp hxx.1).1; omega
      refine ⟨q, _, _, .str n, rfl, rfl, SqL.of hq5, atI_int (by omega) (by rw [Int.toNat_natCast, List.getElem?_map, hjn]; rfl), ?_⟩
      refine ⟨_, rfl, .inl ⟨rfl, _, SqL.of hq5⟩, _, rfl, q, l.map V.str, .str n, ixOf l n, .str n, rfl, rfl, SqL.of hq5, rfl, all_flatS l, by rw [List.getElem?_map, hxx.1]; rfl, by simp [eqV], fun m z' hm hz => ?_, ?_⟩
      · rw [List.getElem?_map] at hz
        obtain ⟨y, hy, rfl⟩ := Option.map_eq_some_iff.mp hz
        have : y ≠ n := fun e => hxx.2 m hm (by rw [hy, e])
        simp [eqV, this]
      refine ⟨_, rfl, ⟨by omega, by omega⟩, _, rfl, d, rfl, .inl ⟨_, .inl hd5⟩, _, rfl, _, DGet.k (k := .inr n) hd5, ?_⟩
      rw [dL_get]
      obtain ⟨num, hnum, hnum0, hnum1⟩ : ∃ num : Int, ((getL u n).map V.int).getD (.int 0) = .int num ∧ (n ∉ writ rs → num = 0) ∧ (n ∈ writ rs → 0 < num) := by
        cases hg : getL u n with
        | none =>
          refine ⟨0, rfl, fun _ => rfl, fun h => ?_⟩
          rw [← hkeys] at h
          obtain ⟨x, hx⟩ := getL_mem.mpr h
          rw [hg] at hx
          cases hx
        | some x => exact ⟨x, rfl, fun h => absurd (by rw [← hkeys]; exact getL_mem.mp ⟨x, hg⟩) h, fun _ => hpos n x hg⟩
      rw [hnum]
      have hul : u.length ≤ 30 := by
        have h1 := congrArg List.length hkeys
        rw [len_keys] at h1
        have := writ_len rs
        omega
      refine ⟨_, rfl, _, _, rfl, rfl, _, rfl, _, rfl, d, _, rfl, DPut.k (k := .inr n) hd5 (by rw [dL_len, sizeLine_eq]; omega), ?_⟩
      rw [dL_put]
      have s6 : Same H1 (upd H5 d (.dK (dL V.int (putL u n (num + 1))))) := Same.mut s5 nd1
      have pid : pi ≠ d := fun e => by rw [e, hd5] at hpi5; cases hpi5
      have prd : pr ≠ d := npd
      have hpi6 : upd H5 d (.dK (dL V.int (putL u n (num + 1)))) pi = some (.lst ((l.take ni).map V.str)) := by rw [upd_ne pid]; exact hpi5
      have hpr6 : upd H5 d (.dK (dL V.int (putL u n (num + 1)))) pr = some (.lst ws) := by rw [upd_ne prd]; exact hpr5
      have hd6 : upd H5 d (.dK (dL V.int (putL u n (num + 1)))) d = some (.dK (dL V.int (putL u n (num + 1)))) := upd_same
      have im56 : Imm cs.has H5 (upd H5 d (.dK (dL V.int (putL u n (num + 1))))) := Imm.mut hd5 id
      have htw6 := htw.mono fun _ _ p => IsR.mono im56 p
      generalize upd H5 d (.dK (dL V.int (putL u n (num + 1)))) = H6 at s6 hpi6 hpr6 hd6 htw6 ⊢
      clear im56
      walk_at "rd"
      refine ⟨a, script, _, rfl, Same.seq s6 hS1, by omega, by omega, _, rfl, ?_⟩
      refine slL_from 3 rfl (SqL.of (s6 _ _ hn.at_)) fun p3 np3 => ?_
      have t1 := Same.new (o := .lst ((l.map V.str).drop 3)) np3
      refine ⟨pi, p3, _, _, rfl, rfl, t1 _ _ hpi6, upd_same, line_ge (by simp; omega), fun p4 np4 => ?_⟩
      have t2 := Same.new (o := .lst ((l.take ni).map V.str ++ (l.map V.str).drop 3)) np4
      have t12 := t1.trans t2
      have hp4 : upd (upd H6 p3 (.lst ((l.map V.str).drop 3))) p4 (.lst ((l.take ni).map V.str ++ (l.map V.str).drop 3)) p4 = some (.lst ((l.take ni ++ l.drop 3).map V.str)) := by rw [upd_same, List.map_append, List.map_drop]
      generalize upd (upd H6 p3 (.lst ((l.map V.str).drop 3))) p4 (.lst ((l.take ni).map V.str ++ (l.map V.str).drop 3)) = H7 at t12 hp4 ⊢
      have s7 := s6.trans t12
      obtain ⟨m5, em5, hm5⟩ : ∃ m5 : Nat, draw / 50 % 6 = (m5 : Int) ∧ m5 ≤ 5 := by
        have := nn (draw / 50) 6 (by decide)
        exact ⟨(draw / 50 % 6).toNat, by omega, by omega⟩
      rw [em5]
      refine ⟨p4, _, m5, ni + 4, l.take ni ++ l.drop 3, rfl, hm5, names_part (hn.keep s7) hni3 hp4, by omega, fun H8 v c s78 pv okc wic szc cnc => ?_⟩
      have hdc := depth_size c
      have s68 := t12.trans s78
      refine ⟨_, rfl, .inl ⟨rfl, _, SqL.of (s68 _ _ hpr6)⟩, _, rfl, v, c, rfl, pv, okc, by omega, by omega, fun H9 y s89 py => ?_⟩
      refine ⟨_, rfl, _, rfl, _, rfl, _, rfl, _, _, rfl, rfl, (by unfold CDiv; decide), n, _, num, _, rfl, hn.ok n hnl, fun HA xe e s9A pe he => ?_⟩
      refine fun xr dr nxr ndr _ => mk_rgC nxr ndr fun HB sAB hB => ⟨rfl, ?_⟩
      have s6B := ((s68.trans s89).trans s9A).trans sAB
      have hws := htw6.length
      have pR : IsR cs HB (.ref xr) ⟨c, e⟩ := ⟨xr, dr, .ref y, .ref xe, rfl, hB, py.mono (Same.imm (s9A.trans sAB)), pe.mono (Same.imm sAB)⟩
      refine ⟨pr, ws, .ref xr, rfl, rfl, s6B _ _ hpr6, by rw [sizeLine_eq]; omega, ?_⟩
      have imB : Imm cs.has HB (upd HB pr (.lst (ws ++ [.ref xr]))) := Imm.mut (s6B _ _ hpr6) id
      refine ⟨_, _, _, _, _, _, _, ⟨rfl, rfl, rfl, rfl, rfl, rfl, rfl⟩, Same.mut (s6.trans s6B) npr1, by rw [upd_ne npip]; exact s6B _ _ hpi6, ws ++ [.ref xr], upd_same, rs ++ [⟨c, e⟩], putL u n (num + 1), by rw [upd_ne npd.symm]; exact s6B _ _ hd6, ?_, by rw [List.length_append, hrl]; rfl, ?_, ?_, ?_, ?_⟩
      · exact Two.app (htw6.mono fun _ _ p => (IsR.mono (Same.imm s6B) p).mono imB) (.one (pR.mono imB))
      · rw [keysL_addW, hkeys, writ_snoc, he.1]
      · intro z k hz
        rw [getL_put] at hz
        split at hz
        · cases hz
          by_cases hw : n ∈ writ rs
          · have := hnum1 hw; omega
          · have := hnum0 hw; omega
        · exact hpos z k hz
      · refine hfit.next ?_
        show (¬ 2 ≤ kd e.n ∧ e.k.counts = false) ∨ (2 ≤ kd e.n ∧ e.n ∈ writ rs ∧ e.k = .unlatch) ∨ (2 ≤ kd e.n ∧ e.n ∉ writ rs ∧ e.k.counts = true)
        rw [he.1]
        rcases he.2.2.2 with ⟨h1, h2⟩ | ⟨h1, h2, h3⟩ | ⟨h1, h2, h3⟩
        · exact .inl ⟨(fun z => absurd (show 2 ≤ cell / 32 / (1 + (ixOf l n : Nat)) % 4 from z) (by omega)), h2⟩
        · refine .inr (.inl ⟨h1, ?_, h3⟩)
          by_cases hw : n ∈ writ rs
          · exact hw
          · have := hnum0 hw; omega
        · refine .inr (.inr ⟨h1, fun hw => ?_, h3⟩)
          have := hnum1 hw
          omega
      · intro r hr
        rcases List.mem_append.mp hr with hr | hr
        · exact hall r hr
        · rw [List.mem_singleton.mp hr]
          refine ⟨⟨okc, by show c.size ≤ 60; omega, by show c.depth ≤ 20; omega, by show isName e.n = true; rw [he.1]; exact hn.ok n hnl, he.2.1, he.2.2.1⟩, szc, cnc, by show e.n ∈ _; rw [he.1]; exact hnd3⟩
    rintro σ H5 ⟨v8, v9, v10, v11, v12, v13, v14, ws, rs, u, rfl, s5, hpi5, hpr5, hd5, htw, hrl, hkeys, hpos, hfit, hall⟩
    walk_at "rd"
    refine ⟨_, rfl, d, _, rfl, hd5, fun pb npb => ?_⟩
    have eb : ((dL V.int u).map fun kv => kV kv.1) = (writ rs).map V.str := by
      rw [← hkeys]
      unfold dL keysL
      rw [List.map_map, List.map_map]
      rfl
    rw [eb]
    have t1 := Same.new (o := .lst ((writ rs).map V.str)) npb
    obtain ⟨mo, emo, hmo1, hmo3⟩ : ∃ mo : Nat, 1 + cell / 7 % 3 = (mo : Int) ∧ 1 ≤ mo ∧ mo ≤ 3 := by
      have := nn (cell / 7) 3 (by decide)
      exact ⟨(1 + cell / 7 % 3).toNat, by omega, by omega, by omega⟩
    rw [emo]
    refine slL_to mo rfl (SqL.of upd_same) fun po npo => ?_
    have t2 := Same.new (o := .lst (((writ rs).map V.str).take mo)) npo
    have s56 := t1.trans t2
    have hpo : upd (upd H5 pb (.lst ((writ rs).map V.str))) po (.lst (((writ rs).map V.str).take mo)) po = some (.lst (((writ rs).take mo).map V.str)) := by rw [upd_same, List.map_take]
    have hpi6 := s56 _ _ hpi5
    have hpr6 := s56 _ _ hpr5
    have htw6 := htw.mono fun _ _ p => IsR.mono (cs := cs) (Same.imm s56) p
    have nwx : ∀ x ∈ writ rs, x ∈ l.drop 3 := fun x hx => by
      obtain ⟨r, hr, rfl⟩ := (writ_mem rs).mp hx
      exact (hall r hr).2.2.2
    have wl : (writ rs).length ≤ 4 := by
      have := nodup_le (writ_nodup rs) nwx
      rw [List.length_drop] at this
      omega
    have wp : 1 ≤ (writ rs).length := writ_pos (by intro e; rw [e] at hrl; simp at hrl; omega)
    have ln : (l.take ni).length ≤ 3 := by rw [List.length_take]; omega
    have okT : ∀ x ∈ l.take ni ++ (writ rs).take mo, x ∈ l := fun x hx => by
      rcases List.mem_append.mp hx with hx | hx
      · exact List.mem_of_mem_take hx
      · exact List.mem_of_mem_drop (nwx x (List.mem_of_mem_take hx))
    have fair : (⟨l.take ni, (writ rs).take mo, rs⟩ : Lad).fair = true := by
      refine (fair_iff _).mpr ⟨by show (l.take ni).length ≤ 6; omega, hn.nd.sublist (List.take_sublist _ _), ⟨?_, ?_⟩, (writ_nodup rs).sublist (List.take_sublist _ _), ⟨by show 1 ≤ rs.length; omega, by show rs.length ≤ 30; omega⟩, fun x hx hw => ?_, fun x hx => List.mem_of_mem_take hx, hfit.crowd, by show (writ rs).length ≤ 20; omega⟩
      · show 1 ≤ ((writ rs).take mo).length
        rw [List.length_take]; omega
      · show ((writ rs).take mo).length ≤ 6
        rw [List.length_take]; omega
      · exact part_apart hn.nd hni3 hx (nwx x hw)
    refine ⟨_, rfl, _, rfl, _, rfl, fun x dx nx ndx _ => mk_ldC (l := ⟨l.take ni, (writ rs).take mo, rs⟩) nx ndx (.inl hpi6) (.inl hpo) (.inl hpr6) htw6 fair (List.all_eq_true.mpr fun z hz => hn.ok z (okT z hz)) fun H' s' pl => ⟨rfl, ?_⟩⟩
    refine k H' x _ (s1.trans (s5.trans (s56.trans s'))) ((s1.trans (s5.trans s56)).free nx) pl fair (fun r hr => ⟨(hall r hr).1, (hall r hr).2.1, (hall r hr).2.2.1⟩) (fun z hz => ⟨hn.ok z (okT z hz), hnq z (okT z hz)⟩) (fun r hr => hnq _ (List.mem_of_mem_drop (hall r hr).2.2.2)) wl
end

--%% MI0
/-! ## how many nodes a condition has -/
/-- the root of a condition over its own names -/
def rootOf (c : Cond) : Nat × List Sh.Nd := (draw c.contacts c []).getD (0, [])
theorem root_sem {c : Cond} (h : c.contacts.length ≤ 60) : draw c.contacts c [] = some (rootOf c) ∧ Sh.Wf c.contacts.length (rootOf c).2 ∧ SemN (rootOf c).2 (rootOf c).1 (fun b => c.holds (imB c.contacts b)) := by
  obtain ⟨r, N, d, w, _, S, _, _⟩ := draw_step (c := c) h Sh.Wf.nil (within_self c)
  have e : rootOf c = (r, N) := by unfold rootOf; rw [d]; rfl
  rw [e]
  exact ⟨d, w, S⟩
structure Fit41 (c : Cond) : Prop where
  ok : c.ok = true
  dp : c.depth ≤ 20
  sz : c.size ≤ 60
  nm : c.contacts.length ≤ 60
  ln : (rootOf c).2.length ≤ 1900
  op : ∀ r N kn, Sh.opp 61 (rootOf c).2 (fun _ => none) (rootOf c).1 = some (r, N, kn) → N.length ≤ 2000
mutual
theorem wgt_size : ∀ c : Cond, c.wgt ≤ c.size
  | .fixed _ => by rw [Cond.wgt, Cond.size]; omega
  | .contact _ => by rw [Cond.wgt, Cond.size]; omega
  | .not c => by
    have := wgt_size c
    rw [Cond.wgt, Cond.size]
    omega
  | .grp _ cs => by
    have := wgts_size cs
    rw [Cond.wgt, Cond.size]
    omega
theorem wgts_size : ∀ cs : List Cond, Cond.wgts cs ≤ Cond.sizes cs
  | [] => by rw [Cond.wgts]; omega
  | c :: cs => by
    have h1 := wgt_size c
    have h2 := wgts_size cs
    rw [Cond.wgts, Cond.sizes]
    omega
end
theorem fit_of {c : Cond} {m : Nat} (ok : c.ok = true) (dp : c.depth ≤ 20) (sz : c.size ≤ 60) (hm : c.contacts.length ≤ m) (m60 : m ≤ 60) (h : c.size * 2 ^ m ≤ 1900) (hm2 : 2 ^ m ≤ 100) : Fit41 c := by
  have h60 : c.contacts.length ≤ 60 := by omega
  obtain ⟨r, N, d, w, _, S, l, _⟩ := draw_step (c := c) h60 Sh.Wf.nil (within_self c)
  have e : rootOf c = (r, N) := by unfold rootOf; rw [d]; rfl
  have hp : 2 ^ c.contacts.length ≤ 2 ^ m := Nat.pow_le_pow_right (by decide) hm
  have hpos : 1 ≤ 2 ^ c.contacts.length := Nat.one_le_two_pow
  have hN : N.length ≤ 1900 := by
    have b1 := Cond.cost_wgt (2 ^ c.contacts.length - 1) c (Cond.ok_cond2 ok)
    rw [Nat.sub_add_cancel hpos] at b1
    have b2 : c.wgt * 2 ^ c.contacts.length ≤ c.size * 2 ^ m := Nat.mul_le_mul (wgt_size c) hp
    simp only [List.length_nil] at l
    omega
  refine ⟨ok, dp, sz, h60, by rw [e]; exact hN, fun r2 N2 kn h2 => ?_⟩
  rw [e] at h2
  obtain ⟨r3, N3, ⟨kn3, e3⟩, _, _, _, l3, _⟩ := opp_step h60 w S
  rw [e3] at h2
  cases h2
  omega
/-! ### rows of contacts, some turned -/
def IsLit (c : Cond) : Prop := ∃ n, c = .contact n ∨ c = .not (.contact n)
theorem draw_lit {l : List Str} {c : Cond} {ns ns1 : List Sh.Nd} {k : Nat} (h : IsLit c) (e : draw l c ns = some (k, ns1)) : ∃ m, ns1 = ns ++ m ∧ m.length ≤ 2 ∧ Sh.Lit ns1 k := by
  obtain ⟨n, rfl | rfl⟩ := h
  · rw [draw] at e
    injection e with e
    obtain ⟨m, h1, h2, h3⟩ := Sh.made_lit (p := ixOf l n) (l := 0) (h := 1) (ns := ns) (by decide) (by decide) (by decide) e
    exact ⟨m, h1, by omega, h3⟩
  · rw [draw, draw] at e
    dsimp only at e
    obtain ⟨m, h1, h2, h3⟩ := Sh.made_lit (p := ixOf l n) (l := 0) (h := 1) (ns := ns) (by decide) (by decide) (by decide) rfl
    cases e2 : Sh.opp 61 (Sh.made ns (ixOf l n) 0 1).2 (fun _ => none) (Sh.made ns (ixOf l n) 0 1).1 with
    | none => rw [e2] at e; cases e
    | some t =>
      obtain ⟨r, ns2, kn⟩ := t
      rw [e2] at e
      dsimp only at e
      cases e
      obtain ⟨m2, h4, h5, h6⟩ := Sh.opp_lit h3 e2
      exact ⟨m ++ m2, by rw [h4, h1, List.append_assoc], by rw [List.length_append]; omega, h6⟩
theorem draws_lits {l : List Str} {stop : Nat} (hs : stop < 2) : ∀ (cs : List Cond), (∀ c ∈ cs, IsLit c) → ∀ {j found r : Nat} {ns ns' : List Sh.Nd}, Sh.Ch stop ns j found → draws l stop cs ns found = some (r, ns') →
    2 * ns'.length ≤ 2 * ns.length + cs.length * (2 * j + cs.length + 5) ∧ Sh.Ch stop ns' (j + cs.length) r
  | [], _, j, found, r, ns, ns', hc, e => by
    rw [draws] at e
    cases e
    exact ⟨by simp, hc⟩
  | c :: cs, h, j, found, r, ns, ns', hc, e => by
    rw [draws] at e
    cases e1 : draw l c ns with
    | none => rw [e1] at e; cases e
    | some t1 =>
      obtain ⟨k, ns1⟩ := t1
      rw [e1] at e
      dsimp only at e
      obtain ⟨m1, rfl, hm1, hl⟩ := draw_lit (h c List.mem_cons_self) e1
      cases e2 : Sh.join l.length stop 61 (ns ++ m1) (fun _ _ => none) found k with
      | none => rw [e2] at e; cases e
      | some t2 =>
        obtain ⟨r2, ns2, kn⟩ := t2
        rw [e2] at e
        dsimp only at e
        obtain ⟨m2, rfl, hm2, hc2⟩ := Sh.join_ch hs j 61 hc.app hl e2
        obtain ⟨b1, b2⟩ := draws_lits hs cs (fun x hx => h x (List.mem_cons_of_mem _ hx)) hc2 e
        rw [List.length_append, List.length_append] at b1
        rw [List.length_cons, show j + (cs.length + 1) = j + 1 + cs.length by omega]
        refine ⟨?_, b2⟩
        have ea : (cs.length + 1) * (2 * j + (cs.length + 1) + 5) = cs.length * (2 * (j + 1) + cs.length + 5) + (2 * j + 6) := by
          have e2 : cs.length * ((2 * j + (cs.length + 1) + 5) + 1) = cs.length * (2 * j + (cs.length + 1) + 5) + cs.length := Nat.mul_succ _ _
          rw [Nat.succ_mul, show 2 * (j + 1) + cs.length + 5 = (2 * j + (cs.length + 1) + 5) + 1 by omega, e2]
          generalize cs.length * (2 * j + (cs.length + 1) + 5) = X
          omega
        rw [ea]
        generalize cs.length * (2 * (j + 1) + cs.length + 5) = X at b1 ⊢
        omega
theorem fit_lits {s : Bool} {cs : List Cond} (hl : ∀ c ∈ cs, IsLit c) (ok : (Cond.grp s cs).ok = true) (dp : (Cond.grp s cs).depth ≤ 20) (sz : (Cond.grp s cs).size ≤ 60) (h59 : cs.length ≤ 59) : Fit41 (.grp s cs) := by
  have h60 : (Cond.grp s cs).contacts.length ≤ 60 := Nat.le_trans (contacts_size _) sz
  obtain ⟨hd, wf, S⟩ := root_sem h60
  have hs := stopOf_lt s
  have hd' : draws (Cond.grp s cs).contacts (stopOf s) cs [] (1 - stopOf s) = some ((rootOf (.grp s cs)).1, (rootOf (.grp s cs)).2) := by
    rw [draw] at hd
    exact hd
  obtain ⟨b1, b2⟩ := draws_lits hs cs hl (j := 0) (Sh.Ch.low (by omega)) hd'
  have hm : cs.length * (2 * 0 + cs.length + 5) ≤ 59 * 64 := Nat.mul_le_mul h59 (by omega)
  simp only [List.length_nil] at b1
  refine ⟨ok, dp, sz, h60, by omega, fun r N kn e => ?_⟩
  obtain ⟨m, rfl, hm2, _⟩ := Sh.opp_ch hs _ 61 b2 e
  rw [List.length_append]
  omega
/-! ### what holds at all images -/
theorem all_images {c : Cond} {x : Bool} (h : ∀ b, c.holds (imB c.contacts b) = x) (f : Im) : c.holds f = x := by
  have e := h fun i => match c.contacts[i]? with
    | some n => f n
    | none => false
  rw [← e]
  refine Cond.holds_congr (l := c.contacts) (fun n hn => ?_) (within_self c)
  show f n = (match c.contacts[ixOf c.contacts n]? with
    | some n => f n
    | none => false)
  rw [(ixOf_at hn).1]
theorem grp_true {s : Bool} {cs : List Cond} {f : Im} (h : ∀ c ∈ cs, c.holds f = true) (h1 : 1 ≤ cs.length) : (Cond.grp s cs).holds f = true := by
  cases s
  · rw [Cond.holds]
    cases cs with
    | nil => simp at h1
    | cons c cs => rw [Cond.anys, h c List.mem_cons_self]; rfl
  · rw [Cond.holds]
    clear h1
    induction cs with
    | nil => rfl
    | cons c cs ih => rw [Cond.alls, h c List.mem_cons_self, ih fun x hx => h x (List.mem_cons_of_mem _ hx)]; rfl
theorem grp_false {s : Bool} {cs : List Cond} {f : Im} (h : ∀ c ∈ cs, c.holds f = false) (h1 : 1 ≤ cs.length) : (Cond.grp s cs).holds f = false := by
  cases s
  · rw [Cond.holds]
    clear h1
    induction cs with
    | nil => rfl
    | cons c cs ih => rw [Cond.anys, h c List.mem_cons_self, ih fun x hx => h x (List.mem_cons_of_mem _ hx)]; rfl
  · rw [Cond.holds]
    cases cs with
    | nil => simp at h1
    | cons c cs => rw [Cond.alls, h c List.mem_cons_self]; rfl

/-! ### rows of names, plain -/
def nmAt (l : List Str) (i : Nat) : Str := (l[i]?).getD ""
theorem nmAt_at {l : List Str} {i : Nat} (h : i < l.length) : l[i]? = some (nmAt l i) := by
  unfold nmAt
  rw [List.getElem?_eq_getElem h]
  rfl
theorem nmAt_mem {l : List Str} {i : Nat} (h : i < l.length) : nmAt l i ∈ l := List.mem_of_getElem? (nmAt_at h)
def cs59 (l : List Str) : List Cond := (List.range 59).map fun k => .contact (nmAt l (k % l.length))
def litC (n : Str) (b : Bool) : Cond := if b then .contact n else .not (.contact n)
def lits (l : List Str) (sg : Nat → Bool) : List Cond := (List.range l.length).map fun i => litC (nmAt l i) (sg i)
theorem litC_facts {n : Str} (b : Bool) (hn : isName n = true) : IsLit (litC n b) ∧ (litC n b).ok = true ∧ (litC n b).size ≤ 2 ∧ (litC n b).depth ≤ 2 := by
  cases b
  · exact ⟨⟨n, .inr rfl⟩, by simp [litC, Cond.ok, hn], by simp [litC, Cond.size], by simp [litC, Cond.depth]⟩
  · exact ⟨⟨n, .inl rfl⟩, by simp [litC, Cond.ok, hn], by simp [litC, Cond.size], by simp [litC, Cond.depth]⟩
theorem sizes_all {d b : Nat} : ∀ {cs : List Cond}, (∀ c ∈ cs, c.ok = true ∧ c.size ≤ b ∧ c.depth ≤ d) → Cond.sizes cs ≤ b * cs.length ∧ Cond.depths cs ≤ d ∧ Cond.oks cs = true
  | [], _ => by simp [Cond.sizes, Cond.depths, Cond.oks]
  | c :: cs, h => by
    have h1 := h c List.mem_cons_self
    have h2 := sizes_all fun x hx => h x (List.mem_cons_of_mem _ hx)
    rw [Cond.sizes, Cond.depths, Cond.oks, List.length_cons, h1.1, h2.2.2, Nat.mul_succ]
    exact ⟨by have := h1.2.1; omega, by have := h1.2.2; omega, rfl⟩
theorem fit59 {l : List Str} {s : Bool} (hl : 1 ≤ l.length) (hn : ∀ n ∈ l, isName n = true) : Fit41 (.grp s (cs59 l)) ∧ (∃ f, (Cond.grp s (cs59 l)).holds f = true) ∧ ∃ f, (Cond.grp s (cs59 l)).holds f = false := by
  have hlen : (cs59 l).length = 59 := by simp [cs59]
  have hall : ∀ c ∈ cs59 l, ∃ n, isName n = true ∧ c = .contact n := fun c hc => by
    obtain ⟨k, _, rfl⟩ := List.mem_map.mp hc
    exact ⟨_, hn _ (nmAt_mem (Nat.mod_lt _ hl)), rfl⟩
  obtain ⟨h1, h2, h3⟩ := sizes_all (b := 1) (d := 1) (cs := cs59 l) fun c hc => by
    obtain ⟨n, hn, rfl⟩ := hall c hc
    exact ⟨by rw [Cond.ok]; exact hn, by rw [Cond.size]; decide, by rw [Cond.depth]; decide⟩
  refine ⟨fit_lits (fun c hc => ?_) ?_ ?_ ?_ (by omega), ⟨fun _ => true, grp_true (fun c hc => ?_) (by omega)⟩, ⟨fun _ => false, grp_false (fun c hc => ?_) (by omega)⟩⟩
  · obtain ⟨n, _, rfl⟩ := hall c hc
    exact ⟨n, .inl rfl⟩
  · rw [Cond.ok, h3, hlen]; rfl
  · rw [Cond.depth]; omega
  · rw [Cond.size]; omega
  · obtain ⟨n, _, rfl⟩ := hall c hc
    rfl
  · obtain ⟨n, _, rfl⟩ := hall c hc
    rfl
theorem ix_nd {l : List Str} (hd : l.Nodup) {i : Nat} (hi : i < l.length) : ixOf l (nmAt l i) = i := by
  have hx := ixOf_at (nmAt_mem hi)
  have hxi := (List.getElem?_eq_some_iff.mp hx.1)
  have hxl := hxi.1
  rcases Nat.lt_trichotomy (ixOf l (nmAt l i)) i with h | h | h
  · exfalso
    have := List.pairwise_iff_getElem.mp hd (ixOf l (nmAt l i)) i hxl hi h
    apply this
    rw [hxi.2]
    have := nmAt_at hi
    rw [List.getElem?_eq_getElem hi] at this
    exact (Option.some.inj this).symm
  · exact h
  · exact absurd (nmAt_at hi) (hx.2 i h)
theorem fitLits {l : List Str} {s : Bool} (sg : Nat → Bool) (hl : 2 ≤ l.length) (h26 : l.length ≤ 26) (hn : ∀ n ∈ l, isName n = true) (hd : l.Nodup) : Fit41 (.grp s (lits l sg)) ∧ (∃ f, (Cond.grp s (lits l sg)).holds f = true) ∧ ∃ f, (Cond.grp s (lits l sg)).holds f = false := by
  have hlen : (lits l sg).length = l.length := by simp [lits]
  have hall : ∀ c ∈ lits l sg, ∃ i, i < l.length ∧ c = litC (nmAt l i) (sg i) := fun c hc => by
    obtain ⟨i, hi, rfl⟩ := List.mem_map.mp hc
    exact ⟨i, List.mem_range.mp hi, rfl⟩
  obtain ⟨h1, h2, h3⟩ := sizes_all (b := 2) (d := 2) (cs := lits l sg) fun c hc => by
    obtain ⟨i, hi, rfl⟩ := hall c hc
    exact (litC_facts (sg i) (hn _ (nmAt_mem hi))).2
  refine ⟨fit_lits (fun c hc => ?_) ?_ ?_ ?_ (by omega), ⟨fun n => sg (ixOf l n), grp_true (fun c hc => ?_) (by omega)⟩, ⟨fun n => !sg (ixOf l n), grp_false (fun c hc => ?_) (by omega)⟩⟩
  · obtain ⟨i, hi, rfl⟩ := hall c hc
    exact (litC_facts (sg i) (hn _ (nmAt_mem hi))).1
  · rw [Cond.ok, h3, hlen, decide_eq_true hl]; rfl
  · rw [Cond.depth]; omega
  · rw [Cond.size]; omega
  · obtain ⟨i, hi, rfl⟩ := hall c hc
    have e := ix_nd hd hi
    unfold litC
    cases hs : sg i
    · show (!sg (ixOf l (nmAt l i))) = true
      rw [e, hs]
      rfl
    · show sg (ixOf l (nmAt l i)) = true
      rw [e, hs]
  · obtain ⟨i, hi, rfl⟩ := hall c hc
    have e := ix_nd hd hi
    unfold litC
    cases hs : sg i
    · show (!!sg (ixOf l (nmAt l i))) = false
      rw [e, hs]
      rfl
    · show (!sg (ixOf l (nmAt l i))) = false
      rw [e, hs]
      rfl
def notN (c : Cond) : Nat → Cond
  | 0 => c
  | k + 1 => .not (notN c k)
theorem notN_facts (n : Str) (hn : isName n = true) : ∀ k, (notN (.contact n) k).ok = true ∧ (notN (.contact n) k).size = k + 1 ∧ (notN (.contact n) k).depth = k + 1 ∧ (notN (.contact n) k).contacts = [n]
  | 0 => ⟨by rw [notN, Cond.ok]; exact hn, by rw [notN, Cond.size], by rw [notN, Cond.depth], rfl⟩
  | k + 1 => by
    obtain ⟨h1, h2, h3, h4⟩ := notN_facts n hn k
    exact ⟨by rw [notN, Cond.ok]; exact h1, by rw [notN, Cond.size, h2], by rw [notN, Cond.depth, h3], h4⟩

--%% MI
/-! ## looks: always -/
abbrev s_always : Stmt := top 34
theorem sc_always : FnScope ["ladder", "numbers", "images", "number", "rung", "sheet", "node"] ["ladder"] (defScope s_always) := ⟨rfl, rfl, rfl, by decide +kernel, rfl, by decide +kernel, by decide +kernel⟩
structure TLook (K : PySem.W.Frag) (mg : Str → Option Value) (cs : Cs) (cc : Addr) (xc : Xc) (ch : Addr) : Prop where
  lad : TLad K mg cs cc xc
  row : TRow K mg cs.cl xc ch
  turn : TTurn K mg cs.cl xc ch
  d_always : DefAt K mg "always" s_always ["ladder"]
  z_enumerate : mg "enumerate" = none
  z_tuple : mg "tuple" = none
/-- the root of the opposite -/
def turnOf (c : Cond) : Nat × List Sh.Nd := match Sh.opp 61 (rootOf c).2 (fun _ => none) (rootOf c).1 with
  | some (r, N, _) => (r, N)
  | none => (0, [])
theorem turn_sem {c : Cond} (h : c.contacts.length ≤ 60) : (∃ kn, Sh.opp 61 (rootOf c).2 (fun _ => none) (rootOf c).1 = some ((turnOf c).1, (turnOf c).2, kn)) ∧ Sh.Wf c.contacts.length (turnOf c).2 ∧ SemN (turnOf c).2 (turnOf c).1 (fun b => !c.holds (imB c.contacts b)) := by
  obtain ⟨_, w, S⟩ := root_sem h
  obtain ⟨r, N, ⟨kn, e⟩, w2, _, S2, _, _⟩ := opp_step h w S
  have e2 : turnOf c = (r, N) := by unfold turnOf; rw [e]
  rw [e2]
  exact ⟨⟨kn, e⟩, w2, S2⟩
def dead (c : Cond) : Bool := decide ((turnOf c).1 = 0)
def img (c : Cond) : Nat → Bool := rowB (turnOf c).2 (turnOf c).1
theorem dead_no {c : Cond} (h : c.contacts.length ≤ 60) (hd : dead c = true) (b : Nat → Bool) : c.holds (imB c.contacts b) = true := by
  obtain ⟨_, w, S⟩ := turn_sem h
  have e := of_decide_eq_true hd
  have := S.2 b
  rw [e, Sh.ev_low (by omega)] at this
  have this : false = !c.holds (imB c.contacts b) := this
  cases hc : c.holds (imB c.contacts b)
  · rw [hc] at this; cases this
  · rfl
theorem live_yes {c : Cond} (h : c.contacts.length ≤ 60) (hd : dead c = false) : c.holds (imB c.contacts (img c)) = false := by
  obtain ⟨_, w, S⟩ := turn_sem h
  have e := of_decide_eq_false hd
  have := path_holds w (turnOf c).1 (fun _ => false) S.1 e
  rw [S.2] at this
  have this : (!c.holds (imB c.contacts (img c))) = true := this
  cases hc : c.holds (imB c.contacts (img c))
  · rfl
  · rw [hc] at this; cases this
def dd (rs : List Rg) (j : Nat) : Bool := match rs[j]? with
  | some r => dead r.c
  | none => false
def gone (rs : List Rg) (i : Nat) : List Nat := (List.range i).filter fun j => dd rs j
def left (rs : List Rg) (i : Nat) : List Nat := (List.range i).filter fun j => !dd rs j
theorem filt_succ (f : Nat → Bool) (i : Nat) : (List.range (i + 1)).filter f = (List.range i).filter f ++ if f i = true then [i] else [] := by
  rw [List.range_succ, List.filter_append]
  congr 1
  simp only [List.filter_cons, List.filter_nil]
theorem gone_t {rs : List Rg} {i : Nat} (h : dd rs i = true) : gone rs (i + 1) = gone rs i ++ [i] := by
  unfold gone
  rw [filt_succ, if_pos h]
theorem gone_f {rs : List Rg} {i : Nat} (h : dd rs i = false) : gone rs (i + 1) = gone rs i := by
  unfold gone
  rw [filt_succ, if_neg (by rw [h]; decide), List.append_nil]
theorem left_t {rs : List Rg} {i : Nat} (h : dd rs i = true) : left rs (i + 1) = left rs i := by
  unfold left
  rw [filt_succ, if_neg (by rw [h]; decide), List.append_nil]
theorem left_f {rs : List Rg} {i : Nat} (h : dd rs i = false) : left rs (i + 1) = left rs i ++ [i] := by
  unfold left
  rw [filt_succ, if_pos (by rw [h]; rfl)]
theorem left_lt {rs : List Rg} {i j : Nat} (h : j ∈ left rs i) : j < i := List.mem_range.mp (List.mem_filter.mp h).1
/-- the images as they are told -/
def imV (ps : List (Nat × Addr)) : List (Key × V) := ps.map fun p => (.inl (p.1 : Int), .ref p.2)
def ImgsAt (rs : List Rg) (H : Hp) (ps : List (Nat × Addr)) (js : List Nat) : Prop := ps.map (·.1) = js ∧ ∀ p ∈ ps, ∃ r : Rg, rs[p.1]? = some r ∧ H p.2 = some (.dK (dL V.bl (dictB r.c.contacts (img r.c))))
theorem ImgsAt.keep {rs : List Rg} {H H' : Hp} (s : Same H H') {ps : List (Nat × Addr)} {js : List Nat} (h : ImgsAt rs H ps js) : ImgsAt rs H' ps js := ⟨h.1, fun p hp => let ⟨r, hr, ha⟩ := h.2 p hp; ⟨r, hr, s _ _ ha⟩⟩
theorem ImgsAt.app {rs : List Rg} {H : Hp} {ps : List (Nat × Addr)} {js : List Nat} (h : ImgsAt rs H ps js) {i : Nat} {a : Addr} {r : Rg} (hr : rs[i]? = some r) (ha : H a = some (.dK (dL V.bl (dictB r.c.contacts (img r.c))))) : ImgsAt rs H (ps ++ [(i, a)]) (js ++ [i]) := by
  refine ⟨by rw [List.map_append, h.1]; rfl, fun p hp => ?_⟩
  rcases List.mem_append.mp hp with hp | hp
  · exact h.2 p hp
  · rw [List.mem_singleton.mp hp]; exact ⟨r, hr, ha⟩
theorem put_new {ps : List (Nat × Addr)} {i : Nat} (hi : ∀ j ∈ ps.map (·.1), j < i) (a : Addr) : putK (imV ps) (Sum.inl (i : Int) : Key) (.ref a) = imV (ps ++ [(i, a)]) := by
  have no : ((imV ps).any fun kv => decide (kv.1 = (Sum.inl (i : Int) : Key))) = false := by
    rw [← Bool.not_eq_true, List.any_eq_true]
    rintro ⟨kv, hkv, e⟩
    obtain ⟨p, hp, rfl⟩ := List.mem_map.mp hkv
    have e := of_decide_eq_true e
    injection e with e
    have := hi p.1 (List.mem_map.mpr ⟨p, hp, rfl⟩)
    omega
  unfold putK
  rw [no]
  unfold imV
  rw [List.map_append]
  rfl
section
variable {P : Program} {w : World} {K : PySem.W.Frag} {mg : Str → Option Value} {base : Heap} {cs : Cs} {cc : Addr} {xc : Xc} {ch : Addr}
theorem K3.same {a b c : Addr} {H0 H H' : Hp} (s : Same H0 H) (k : K3 a b c H H') (n1 : H0 a = none) (n2 : H0 b = none) (n3 : H0 c = none) : Same H0 H' := fun q o e => k q o (s q o e) (ne_of_none e n1) (ne_of_none e n2) (ne_of_none e n3)
def spLook (K : PySem.W.Frag) (cs : Cs) : Sp := fun vs H Q _ => ∃ (v : V) (l : Lad), vs = [v] ∧ IsL K cs H v l ∧ l.rs.length ≤ 30 ∧ (∀ r ∈ l.rs, Fit41 r.c) ∧
  ∀ (H' : Hp) (t p d : Addr) (ps : List (Nat × Addr)), Same H H' → H' t = some (.tup [.ref p, .ref d]) → H' p = some (.tup (natV (gone l.rs l.rs.length))) → H' d = some (.dK (imV ps)) → ImgsAt l.rs H' ps (left l.rs l.rs.length) → (∀ q ∈ ps, q.2 ≠ d) → Q (.ref t) H'
theorem ok_look (T : TLook K mg cs cc xc ch) : FnAt P w K mg base CX0 "always" 88 ["ladder"] (spLook K cs) := by
  have M_Sheet := (ok_init_sh (P := P) (w := w) (base := base) T.row.sh).calm
  have G_node := disp_node (P := P) (w := w) (base := base) T.row.sh
  have G_turned := disp_turned (P := P) (w := w) (base := base) T.turn
  have G_row := disp_row (P := P) (w := w) (base := base) T.row
  have G_contacts : DispAt P w K mg base CX0 cs.cl.has "contacts" 22 ["self"] (spContactsN cs.cl 20) := disp_contactsN T.row.sh.gather 20
  refine fnAt_ok T.d_always sc_always (fun vs H Q E h => ?_) (fun f cdv A outer st H vs Q E hr h => ?_)
  · obtain ⟨v, l, rfl, _⟩ := h; rfl
  · obtain ⟨v, l, rfl, hL, hl30, hfit, k⟩ := h
    have hu := hu_of hr
    obtain ⟨a, dx, ti, tt, tr, ws, rfl, ha, hi, ho, htr, htw⟩ := id hL
    refine ⟨_, (pss_cons (ps_set (i := 1) sc_always.nd rfl (by first | exact Or.inl rfl | exact Or.inr rfl) (pe_lst pa_nil))
        (pss_cons (ps_set (i := 2) sc_always.nd rfl (by first | exact Or.inl rfl | exact Or.inr rfl) pe_dnewK)
        (pss_cons (ps_for PassesOwn.never rfl (pi_enumA (by rfl) T.z_enumerate (pa_cons (pe_fld (pv 0) rfl) pa_nil)) (pg_tup rfl (pgs_cons (pg_name (i := 3) sc_always.nd rfl (by first | exact Or.inl rfl | exact Or.inr rfl)) (pgs_cons (pg_name (i := 4) sc_always.nd rfl (by first | exact Or.inl rfl | exact Or.inr rfl)) pgs_nil))) (pss_cons (ps_set (i := 5) sc_always.nd rfl (by first | exact Or.inl rfl | exact Or.inr rfl) (pe_makeF M_Sheet hr pass0 (pa_cons (pe_methD0 G_contacts hr pass0 (pe_fld (pv 4) rfl)) pa_nil)))
          (pss_cons (ps_set (i := 6) sc_always.nd rfl (by first | exact Or.inl rfl | exact Or.inr rfl) (pe_methD G_turned hr pass0 (pv 5) (pa_cons (pe_methD G_node hr pass0 (pv 5) (pa_cons (pe_fld (pv 4) rfl) pa_nil)) pa_nil)))
          (pss_one (ps_if (pt_cmpR op_eq (pv 6) pe_int (nomark _)) (pss_one (ps_expr (pe_bm PySem.F.plainAttrs_list PySem.F.slot_list_append PySem.F.type_list_append mt_append (pv 1) (pa_cons (pv 3) pa_nil)))) (pss_one (ps_dput hu (pv 2) (pv 3) (pe_methD G_row hr pass0 (pv 5) (pa_cons (pv 6) pa_nil)) rfl)))))))
        (pss_one (ps_ret (pe_tup (pa_cons (pe_callTy call_tuple_of (by rfl) T.z_tuple (show PySem.bootBuiltins "tuple" = some (.type "tuple") by decide +kernel) (pa_cons (pv 1) pa_nil)) (pa_cons (pv 2) pa_nil)))))))), ?_⟩
    walk_at "rd"
    have hlen := htw.length
    refine ⟨Nat.zero_le _, fun p np => ?_⟩
    have s1 := Same.new (o := .lst []) np
    have hp1 := upd_same (H := H) (a := p) (o := .lst [])
    generalize upd H p (.lst []) = H1 at s1 hp1 ⊢
    intro d nd
    have s2 := s1.trans (Same.new (o := .dK []) nd)
    have hp2 := (Same.new (o := .dK []) nd) _ _ hp1
    have hd2 := upd_same (H := H1) (a := d) (o := .dK [])
    have nd0 : H d = none := s1.free nd
    have npd : p ≠ d := fun e => by rw [← e, hp1] at nd; cases nd
    show tFor _ _ _ _ [some (.ref a), some (.ref p), some (.ref d), none, none, none, none] (upd H1 d (.dK []))
    generalize upd H1 d (.dK []) = H2 at s2 hp2 hd2 ⊢
    have htrT : ∀ {H'}, Same H H' → SqT K H' tr ws := fun s => htr.elim (fun e => SqT.of (s _ _ e)) fun h => h _
    refine ⟨_, rfl, a, _, dx, _, _, rfl, s2 _ _ ha, T.lad.c_Ladder.cl, T.lad.nr_ld, lkL3, tr, ws, rfl, .inr ⟨htrT s2, for_it walk_enumT (fun i σ H' => ∃ (v3 v4 v5 v6 : Option V) (ps : List (Nat × Addr)), σ = [some (.ref a), some (.ref p), some (.ref d), v3, v4, v5, v6] ∧ Same H H' ∧ H' p = some (.lst (natV (gone l.rs i))) ∧ H' d = some (.dK (imV ps)) ∧ ImgsAt l.rs H' ps (left l.rs i) ∧ ∀ q ∈ ps, q.2 ≠ d) ⟨none, none, none, none, [], rfl, s2, hp2, hd2, ⟨rfl, fun _ h => nomatch h⟩, fun _ h => nomatch h⟩ (fun i σ H' _ ⟨_, _, _, _, _, _, s, _⟩ => htrT s) ?_ ?_⟩⟩
    · rintro i y σ H3' H3 hi ⟨v3, v4, v5, v6, ps, rfl, s3, hp3, hd3, him, hqd⟩ ⟨T', y1, z, rfl, nT, rfl, hy, hz⟩
      cases hy
      obtain ⟨r, hr', ar, dr, pv, ev, rfl, hrg, hpp, _⟩ := htw.at hz
      have hrm := List.mem_of_getElem? hr'
      obtain ⟨okc, hdp, hsz, hl60, hN, hN2⟩ := hfit r hrm
      obtain ⟨hdraw, wf1, S1⟩ := root_sem hl60
      obtain ⟨⟨kn, hopp⟩, wf, S⟩ := turn_sem hl60
      refine ⟨T', _, rfl, SqT.of upd_same, rfl, ?_⟩
      walk_at "rd"
      have sT := Same.new (o := .tup [V.int (i : Int), .ref ar]) nT
      have s0 := s3.trans sT
      have hrg0 := s0 _ _ hrg
      have hp0 := sT _ _ hp3
      have hd0 := sT _ _ hd3
      have him0 := him.keep sT
      have pp0 : IsP cs.cl (upd H3' T' (.tup [V.int (i : Int), .ref ar])) pv r.c := hpp.mono (Same.imm s0)
      generalize upd H3' T' (.tup [V.int (i : Int), .ref ar]) = H3 at s0 hrg0 hp0 hd0 him0 pp0 ⊢
      obtain ⟨a', C', dx', fs', rfl, ha', hC', hl'⟩ := meth_of (m := "contacts") (by decide +kernel) pp0
      refine ⟨_, rfl, ar, _, dr, _, _, rfl, hrg0, T.lad.c_Rung.cl, T.lad.np_rg, lkR1, a', C', dx', fs', rfl, ha', hC', hl', a', dx', fs', r.c, rfl, ha', pp0, hdp, by omega, fun H4 t1 s34 ht1 _ => ?_⟩
      have nms := contacts_names okc
      refine fun xs dxs nx ndx _ => ⟨H4, xs, dxs, t1, r.c.contacts, rfl, upd_same, same_mkS nx ndx, nx, .inr ht1, by omega, fun n hn => line_ge (by have := isName_len' (nms n hn); omega), fun _ _ _ H5 tn ln dn sh5 s45 nln ndn => ⟨rfl, ?_⟩, (fun h => absurd nms h), (fun _ h => absurd ⟨hl60, contacts_nodup r.c⟩ h)⟩
      have s35 := s34.trans s45
      refine ⟨_, rfl, xs, ch, dxs, _, rfl, sh5.ob, rfl, lkSn (by decide +kernel), _, rfl, xs, ch, dxs, _, rfl, sh5.ob, rfl, lkSn (by decide +kernel), _, rfl, ar, _, dr, _, _, rfl, s35 _ _ hrg0, T.lad.c_Rung.cl, T.lad.np_rg, lkR1, xs, dxs, tn, ln, dn, r.c.contacts, [], (rootOf r.c).2, .ref a', r.c, (rootOf r.c).1, rfl, sh5, Sh.Wf.nil, hl60, pp0.mono (Same.imm s35), hdp, hsz, within_self r.c, hdraw, by omega, fun H5' k5 sh5' => ?_⟩
      refine ⟨xs, dxs, tn, ln, dn, r.c.contacts, (rootOf r.c).2, (turnOf r.c).2, (rootOf r.c).1, (turnOf r.c).1, rfl, sh5', wf1, hl60, S1.1, ⟨kn, hopp⟩, hN2 _ _ _ hopp, fun H6 k6 sh6 => ⟨scal_ii, ?_⟩⟩
      have k56 := K3.trans k5 k6
      have s36 : Same H3 H6 := s34.trans (K3.same s45 k56 nln ndn ndn)
      have s06 := s0.trans s36
      have hp6 := s36 _ _ hp0
      have hd6 := s36 _ _ hd0
      have him6 := him0.keep s36
      have edd : dd l.rs i = dead r.c := by unfold dd; rw [hr']
      have hgl : (natV (gone l.rs i)).length ≤ i := by rw [natV_len]; unfold gone; have := List.length_filter_le (fun j => dd l.rs j) (List.range i); rw [List.length_range] at this; exact this
      have hkl : (imV ps).length ≤ i := by
        have h1 := congrArg List.length him.1
        rw [List.length_map] at h1
        unfold imV
        rw [List.length_map, h1]
        unfold left
        have := List.length_filter_le (fun j => !dd l.rs j) (List.range i)
        rw [List.length_range] at this
        exact this
      by_cases hz0 : (turnOf r.c).1 = 0
      · have hdead : dead r.c = true := decide_eq_true hz0
        rw [gone_t (edd.trans hdead), left_t (edd.trans hdead)]
        rw [decide_eq_true (show V.int ((turnOf r.c).1 : Int) = V.int 0 by rw [hz0]; rfl)]
        refine iteT ⟨_, rfl, .inl ⟨rfl, _, SqL.of hp6⟩, _, rfl, p, _, _, rfl, rfl, hp6, by rw [sizeLine_eq]; omega, ?_⟩
        refine ⟨_, _, _, _, ⟨rfl, rfl, rfl, rfl⟩, Same.mut s06 np, by rw [upd_same, natV_app]; rfl, ps, by rw [upd_ne npd.symm]; exact hd6, ⟨him6.1, fun q hq => ?_⟩, hqd⟩
        obtain ⟨r2, hr2, ha2⟩ := him6.2 q hq
        exact ⟨r2, hr2, by rw [upd_ne (fun e => by rw [e, hp6] at ha2; cases ha2)]; exact ha2⟩
      · have hdead : dead r.c = false := decide_eq_false hz0
        rw [gone_f (edd.trans hdead), left_f (edd.trans hdead)]
        rw [decide_eq_false (show ¬ V.int ((turnOf r.c).1 : Int) = V.int 0 by intro e; injection e with e; omega)]
        refine iteF ⟨_, rfl, xs, ch, dxs, _, rfl, sh6.ob, rfl, lkSn (by decide +kernel), _, rfl, xs, dxs, tn, ln, dn, r.c.contacts, (turnOf r.c).2, (turnOf r.c).1, rfl, sh6, wf, hl60, contacts_nodup r.c, S.1, (fun h => absurd h hz0), fun _ H7 da s67 nda hda => ?_⟩
        have hd7 := s67 _ _ hd6
        refine ⟨_, rfl, _, rfl, d, _, rfl, DPut.k (k := .inl (i : Int)) hd7 (by rw [sizeLine_eq]; omega), ?_⟩
        rw [put_new (fun j hj => by rw [him.1] at hj; exact left_lt hj)]
        have him7 := (him6.keep s67).app hr' hda
        have hqd' : ∀ q ∈ ps ++ [(i, da)], q.2 ≠ d := fun q hq => by
          rcases List.mem_append.mp hq with hq | hq
          · exact hqd q hq
          · rw [List.mem_singleton.mp hq]
            exact fun e => by rw [show (i, da).2 = da from rfl] at e; rw [e, hd6] at nda; cases nda
        refine ⟨_, _, _, _, rfl, Same.mut (s06.trans s67) nd0, by rw [upd_ne npd]; exact s67 _ _ hp6, ps ++ [(i, da)], upd_same, ⟨him7.1, fun q hq => ?_⟩, hqd'⟩
        obtain ⟨r2, hr2, ha2⟩ := him7.2 q hq
        exact ⟨r2, hr2, by rw [upd_ne (hqd' q hq)]; exact ha2⟩
    rintro σ H3 ⟨v3, v4, v5, v6, ps, rfl, s3, hp3, hd3, him, hqd⟩
    rw [hlen] at hp3 him
    walk_at "rd"
    refine ⟨_, .inl ⟨SqL.of hp3, fun t1 nt1 => ⟨line_ge (by simp), fun t nt => ?_⟩⟩⟩
    have u1 := Same.new (o := .tup (natV (gone l.rs l.rs.length))) nt1
    have u2 := Same.new (o := .tup [.ref t1, .ref d]) nt
    exact k _ t t1 d ps ((s3.trans u1).trans u2) upd_same (u2 _ _ upd_same) (u2 _ _ (u1 _ _ hd3)) (him.keep (u1.trans u2)) hqd
end

--%% MJ
/-! ## k42: what the law asks -/
abbrev s__law_contacts : Stmt := top 65
theorem sc__law_contacts : FnScope ["_law_told", "_law_found", "_law_inner", "_law_name"] ["_law_told"] (defScope s__law_contacts) := ⟨rfl, rfl, rfl, by decide +kernel, rfl, by decide +kernel, by decide +kernel⟩
abbrev s__law_truths : Stmt := top 64
theorem sc__law_truths : FnScope ["_law_told", "_law_names_here", "_law_many", "_law_number"] ["_law_told", "_law_names_here"] (defScope s__law_truths) := ⟨rfl, rfl, rfl, by decide +kernel, rfl, by decide +kernel, by decide +kernel⟩
abbrev s__law_can : Stmt := top 70
theorem sc__law_can : FnScope ["_law_told", "_law_names_here"] ["_law_told"] (defScope s__law_can) := ⟨rfl, rfl, rfl, by decide +kernel, rfl, by decide +kernel, by decide +kernel⟩
abbrev s__law_whole : Stmt := top 66
theorem sc__law_whole : FnScope ["_law_found"] ["_law_found"] (defScope s__law_whole) := ⟨rfl, rfl, rfl, by decide +kernel, rfl, by decide +kernel, by decide +kernel⟩
structure TOwn (K : PySem.W.Frag) (mg : Str → Option Value) : Prop where
  lh : TLHolds K mg
  d_contacts : DefAt K mg "_law_contacts" s__law_contacts ["_law_told"]
  d_truths : DefAt K mg "_law_truths" s__law_truths ["_law_told", "_law_names_here"]
  d_can : DefAt K mg "_law_can" s__law_can ["_law_told"]
  d_whole : DefAt K mg "_law_whole" s__law_whole ["_law_found"]
  z_len : mg "len" = none
  z_range : mg "range" = none
  z_isinstance : mg "isinstance" = none
  z_int : mg "int" = none
  z_bool : mg "bool" = none
section
variable {P : Program} {w : World} {K : PySem.W.Frag} {mg : Str → Option Value} {base : Heap}
def spWholeB : Sp := fun vs H Q _ => ∃ i : Int, vs = [.int i] ∧ Q (.bl true) H
theorem ok_wholeB (T : TOwn K mg) : FnAt P w K mg base CX0 "_law_whole" 1 ["_law_found"] spWholeB := by
  refine fnAt_ok T.d_whole sc__law_whole (fun vs H Q E h => ?_) (fun f cdv A outer s H vs Q E hr h => ?_)
  · obtain ⟨i, rfl, _⟩ := h; rfl
  · obtain ⟨i, rfl, k⟩ := h
    refine ⟨_, (pss_one (ps_ret (pe_and (pe_callB call_isInt (by rfl) T.z_isinstance (by decide +kernel) (pa_cons (pv 0) (pa_cons (pe_bltn (v := .ty "int") (by rfl) T.z_int (by decide +kernel) rfl) pa_nil))) (pe_one (pe_not (pe_callB call_isBool (by rfl) T.z_isinstance (by decide +kernel) (pa_cons (pv 0) (pa_cons (pe_bltn (v := .ty "bool") (by rfl) T.z_bool (by decide +kernel) rfl) pa_nil)))))))), ?_⟩
    walk_at "rd"
    exact k
def spContactsL (n : Nat) : Sp := fun vs H Q _ => ∃ (v : V) (c : Cond), vs = [v] ∧ IsT H v c ∧ c.depth ≤ n ∧ c.size ≤ 1000 ∧ ∀ (H' : Hp) (p : Addr), Same H H' → H p = none → H' p = some (.lst (c.contacts.map V.str)) → Q (.ref p) H'
theorem contacts_loop {n : Nat} {t : Addr} {H : Hp} {kd : V} {vs : List V} {cs : List Cond} {D : Ends} (h0 : H t = some (.tup (kd :: vs))) (ps : IsTs H vs cs) (hd : Cond.depths cs ≤ n) (hz : Cond.sizes cs ≤ 1000)
    (q : ∀ (v2 v3 : Option V) (H' : Hp) (p : Addr), Same H H' → H p = none → H' p = some (.lst ((Cond.gathers [] cs).map V.str)) → D.nx [some (.ref t), some (.ref p), v2, v3] H') :
    0 ≤ sizeLine ∧ ∀ (p : Addr), H p = none → tFor (iTup K (tSl (rSlT K) (tVar 0) (tPart (tC (V.int 1))) tNoPart)) (gName 2)
      (tFor (iList K (tCall (spContactsL n) [] E0 (tCons (tVar 2) tNil))) (gName 3) (tIfS (tTest (tOp (rIn K true) (tVar 3) (tVar 1))) (tDrop (tBM K "list" rAppend (tVar 1) (tCons (tVar 3) tNil))) tNext))
      D [some (V.ref t), some (V.ref p), none, none] (upd H p (HO.lst [])) := by
  refine ⟨Nat.zero_le _, fun p np => ?_⟩
  have hl := ps.length
  have hz2 := Cond.len_sizes cs
  have s1 := Same.new (o := .lst []) np
  have hp1 := upd_same (H := H) (a := p) (o := .lst [])
  generalize upd H p (.lst []) = H1 at s1 hp1 ⊢
  refine ⟨_, rfl, 1, rfl, t, _, rfl, SqT.of (s1 _ _ h0), ?_, fun t1 nt1 => ?_⟩
  · rintro ⟨h1, _⟩
    rw [show (1 : Int) = ((1 : Nat) : Int) from rfl, HT.sIx_nat, List.length_cons] at h1
    omega
  have e2 : cutV (kd :: vs) (some 1) none = vs := by
    rw [show (1 : Int) = ((1 : Nat) : Int) from rfl, cutV_from]
    rfl
  rw [e2]
  have s2 := Same.new (o := .tup vs) nt1
  have ht1 := upd_same (H := H1) (a := t1) (o := .tup vs)
  have hp2 := s2 _ _ hp1
  have s12 := s1.trans s2
  generalize upd H1 t1 (.tup vs) = H2 at s12 ht1 hp2 ⊢
  refine ⟨t1, rfl, ⟨_, SqT.of ht1⟩, for_it walk_tup (fun i σ H' => ∃ v2 v3 : Option V, σ = [some (.ref t), some (.ref p), v2, v3] ∧ Same H H' ∧ H' t1 = some (.tup vs) ∧ H' p = some (.lst ((Cond.gathers [] (cs.take i)).map V.str))) ⟨none, none, rfl, s12, ht1, hp2⟩ (fun i σ H' _ ⟨_, _, _, _, z, _⟩ => SqT.of z) ?_ ?_⟩
  · rintro i y σ H3' H3 hi ⟨v2, v3, rfl, s3, ht3, hp3⟩ ⟨rfl, hy⟩
    obtain ⟨c', hc', p'⟩ := (ps.mono (T := fun _ => False) (Same.imm s3)).at hy
    have hm := List.mem_of_getElem? hc'
    have h1 := Cond.depth_mem hm
    have h2 := Cond.size_mem hm
    walk_at "rd"
    refine ⟨_, rfl, y, c', rfl, p', by omega, by omega, fun H4 pl s34 npl hpl => ⟨pl, rfl, ⟨_, SqL.of hpl⟩, for_it walk_list (fun j σ H' => ∃ v3 : Option V, σ = [some (.ref t), some (.ref p), some y, v3] ∧ Same H H' ∧ H' t1 = some (.tup vs) ∧ H' pl = some (.lst (c'.contacts.map V.str)) ∧ H' p = some (.lst (((c'.contacts.take j).foldl addN (Cond.gathers [] (cs.take i))).map V.str))) ⟨v3, rfl, s3.trans s34, s34 _ _ ht3, hpl, s34 _ _ hp3⟩ (fun j σ H' _ ⟨_, _, _, _, z, _⟩ => SqL.of z) ?_ ?_⟩⟩
    · rintro j z σ H5' H5 hj ⟨v3, rfl, s5, ht5, hpl5, hp5⟩ ⟨rfl, hz'⟩
      rw [List.getElem?_map] at hz'
      obtain ⟨nm, hnm, rfl⟩ := Option.map_eq_some_iff.mp hz'
      walk_at "rd"
      refine ⟨p, _, rfl, .inl (SqL.of hp5), rfl, all_flatS _, ?_⟩
      refine ⟨_, rfl, ?_⟩
      rw [if_pos rfl, inV_strs]
      have hjl := (List.getElem?_eq_some_iff.mp hnm).1
      have hcz := contacts_size c'
      have ppl : p ≠ pl := ne_of_none hp3 npl
      have ppt : p ≠ t1 := fun e => by rw [e, ht3] at hp3; cases hp3
      have hlen : ((c'.contacts.take j).foldl addN (Cond.gathers [] (cs.take i))).length ≤ 3000 := by
        have a1 := foldN_len (c'.contacts.take j) (Cond.gathers [] (cs.take i))
        have a2 := gathers_len (cs.take i) []
        have a3 := sizes_takeK cs i
        rw [List.length_take] at a1
        simp only [List.length_nil] at a2
        omega
      have estep : (c'.contacts.take (j + 1)).foldl addN (Cond.gathers [] (cs.take i)) = addN ((c'.contacts.take j).foldl addN (Cond.gathers [] (cs.take i))) nm := by
        rw [List.take_succ, hnm, List.foldl_append]
        rfl
      by_cases hin : nm ∈ (c'.contacts.take j).foldl addN (Cond.gathers [] (cs.take i))
      · rw [decide_eq_true hin]
        exact iteF ⟨s5, ht5, hpl5, by rw [estep, addN_in hin]; exact hp5⟩
      · rw [decide_eq_false hin]
        refine iteT ⟨_, rfl, .inl ⟨rfl, _, SqL.of hp5⟩, _, rfl, p, _, _, rfl, rfl, hp5, by rw [List.length_map, sizeLine_eq]; omega, Same.mut s5 np, by rw [upd_ne ppt.symm]; exact ht5, by rw [upd_ne ppl.symm]; exact hpl5, ?_⟩
        rw [upd_same, estep, show addN _ nm = _ ++ [nm] from if_neg hin, List.map_append]
        rfl
    · rintro σ H5 ⟨v3, rfl, s5, ht5, hpl5, hp5⟩
      rw [List.length_map, List.take_length] at hp5
      refine ⟨_, _, rfl, s5, ht5, ?_⟩
      rw [hp5, gathers_take [] cs hc', gather_fold c' (Cond.gathers [] (cs.take i))]
      rfl
  · rintro σ H3 ⟨v2, v3, rfl, s3, ht3, hp3⟩
    rw [hl, List.take_length] at hp3
    exact q v2 v3 H3 p s3 np hp3
theorem ok_contactsL (T : TOwn K mg) : ∀ n : Nat, FnAt P w K mg base CX0 "_law_contacts" (n + 1) ["_law_told"] (spContactsL n)
  | 0 => by
    refine fnAt_ok T.d_contacts sc__law_contacts (fun vs H Q E h => ?_) (fun f cdv A outer s H vs Q E hr h => ?_)
    · obtain ⟨v, c, rfl, _⟩ := h; rfl
    · obtain ⟨v, c, rfl, p, hd, _⟩ := h
      exact absurd c.depth_pos (by omega)
  | n + 1 => by
    have G__law_contacts := ok_contactsL T n
    refine fnAt_ok T.d_contacts sc__law_contacts (fun vs H Q E h => ?_) (fun f cdv A outer s H vs Q E hr h => ?_)
    · obtain ⟨v, c, rfl, _⟩ := h; rfl
    · obtain ⟨v, c, rfl, p, hd, hz, k⟩ := h
      refine ⟨_, (pss_cons (ps_if (pt_cmpR op_eq (pe_ix ix_tup (pv 0) pe_int (fun _ _ => rfl)) pe_str (nomark _)) (pss_one (ps_ret (pe_lst pa_nil))) pss_nil)
        (pss_cons (ps_if (pt_cmpR op_eq (pe_ix ix_tup (pv 0) pe_int (fun _ _ => rfl)) pe_str (nomark _)) (pss_one (ps_ret (pe_lst (pa_cons (pe_ix ix_tup (pv 0) pe_int (fun _ _ => rfl)) pa_nil)))) pss_nil)
        (pss_cons (ps_set (i := 1) sc__law_contacts.nd rfl (by first | exact Or.inl rfl | exact Or.inr rfl) (pe_lst pa_nil))
        (pss_cons (ps_for PassesOwn.never rfl (pi_tup (pe_slice sl_tup (pv 0) (po_some pe_int) po_none)) (pg_name (i := 2) sc__law_contacts.nd rfl (by first | exact Or.inl rfl | exact Or.inr rfl)) (pss_one (ps_for PassesOwn.never rfl (pi_list (pe_callF G__law_contacts hr pass0 (pa_cons (pv 2) pa_nil) (Nat.le_refl _))) (pg_name (i := 3) sc__law_contacts.nd rfl (by first | exact Or.inl rfl | exact Or.inr rfl)) (pss_one (ps_if (pt_cmpR op_notIn_seq (pv 3) (pv 1) rfl) (pss_one (ps_expr (pe_bm PySem.F.plainAttrs_list PySem.F.slot_list_append PySem.F.type_list_append mt_append (pv 1) (pa_cons (pv 3) pa_nil)))) pss_nil)))))
        (pss_one (ps_ret (pv 1))))))), ?_⟩
      walk_at "rd"
      obtain ⟨t, _, rfl, _⟩ := p.ref
      obtain ⟨rest, hsh, hki⟩ := p.shape
      refine ⟨t, _, 0, .str (kindS c), rfl, rfl, SqT.of hsh, atI_int (by decide) rfl, rfl, ?_⟩
      rw [k_fx]
      cases c with
      | fixed b => exact iteT ⟨Nat.zero_le _, fun p np => k _ p (Same.new np) np upd_same⟩
      | contact m =>
        cases p with
        | contact h0 =>
          refine iteF ⟨t, _, 0, .str (kindS (.contact m)), rfl, rfl, SqT.of hsh, atI_int (by decide) rfl, rfl, ?_⟩
          rw [k_ct]
          exact iteT ⟨t, _, 1, .str m, rfl, rfl, SqT.of h0, atI_int (by decide) rfl, line_ge (by simp), fun p np => k _ p (Same.new np) np upd_same⟩
      | not c =>
        refine iteF ⟨t, _, 0, .str (kindS (.not c)), rfl, rfl, SqT.of hsh, atI_int (by decide) rfl, rfl, ?_⟩
        rw [k_ct]
        cases p with
        | @not _ u _ h0 pu =>
          rw [Cond.depth] at hd
          rw [Cond.size] at hz
          refine iteF (contacts_loop (cs := [c]) h0 (.cons pu .nil) (by simp [Cond.depths]; omega) (by simp [Cond.sizes]; omega) fun v2 v3 H' p s np hp => ?_)
          walk_at "rd"
          exact k H' p s np hp
      | grp s cs =>
        refine iteF ⟨t, _, 0, .str (kindS (.grp s cs)), rfl, rfl, SqT.of hsh, atI_int (by decide) rfl, rfl, ?_⟩
        rw [k_ct]
        cases p with
        | @grp _ vs _ _ h0 ps =>
          rw [Cond.depth] at hd
          rw [Cond.size] at hz
          refine iteF (contacts_loop h0 ps (by omega) (by omega) fun v2 v3 H' p s np hp => ?_)
          walk_at "rd"
          exact k H' p s np hp
def spTruths : Sp := fun vs H Q _ => ∃ (v : V) (q : Addr) (c : Cond) (l : List Str) (m : Nat), vs = [v, .ref q] ∧ IsT H v c ∧ c.within l = true ∧ c.depth ≤ 20 ∧ c.size ≤ 60 ∧ NamesU H q l m ∧ m ≤ 6 ∧
  ∀ (H' : Hp) (p : Addr), Same H H' → H' p = some (.lst ((List.range (2 ^ m)).map fun k => V.bl (c.holds (imB l (bitN k))))) → Q (.ref p) H'
theorem ok_truths (T : TOwn K mg) : FnAt P w K mg base CX0 "_law_truths" 22 ["_law_told", "_law_names_here"] spTruths := by
  have G__law_holds := ok_lholds (P := P) (w := w) (base := base) T.lh 20
  have G__law_row : FnAt P w K mg base CX0 "_law_row" 1 _ spRow := ok_row T.lh
  refine fnAt_ok T.d_truths sc__law_truths (fun vs H Q E h => ?_) (fun f cdv A outer s H vs Q E hr h => ?_)
  · obtain ⟨v, q, c, l, m, rfl, _⟩ := h; rfl
  · obtain ⟨v, q, c, l, m, rfl, p, hw, hd, hz, hn, hm, k⟩ := h
    refine ⟨_, (pss_cons (ps_set (i := 2) sc__law_truths.nd rfl (by first | exact Or.inl rfl | exact Or.inr rfl) (pe_ix ix_list (pe_lst (pa_cons pe_int (pa_cons pe_int (pa_cons pe_int (pa_cons pe_int (pa_cons pe_int (pa_cons pe_int (pa_cons pe_int pa_nil)))))))) (pe_callB call_len_seq (by rfl) T.z_len PySem.boot_len (pa_cons (pv 1) pa_nil)) (fun _ _ => rfl)))
        (pss_one (ps_ret (pe_lc (own := [("_law_number", 3)]) (g := gName 3) (tt := tYes) rfl sc__law_truths.nd (pi_range1 rfl T.z_range (pa_cons (pv 2) pa_nil)) (blkOk_by (own := [("_law_number", 3)]) (N := ["_law_told", "_law_names_here", "_law_many", "_law_number"]) (sc := defScope s__law_truths) (by decide +kernel)) (fun _ _ _ _ _ => pg_name (i := 3) sc__law_truths.nd rfl (Or.inl rfl)) (fun _ _ _ _ _ => pts_nil) (fun _ _ _ _ _ => (pe_callF G__law_holds hr pass0 (pa_cons (pv 0) (pa_cons (pe_callF G__law_row hr pass0 (pa_cons (pv 1) (pa_cons (pv 3) pa_nil))) pa_nil)))))))), ?_⟩
    walk_at "rd"
    refine ⟨line_ge (by simp), fun p1 n1 => ?_⟩
    have s1 := Same.new (o := .lst [V.int 1, V.int 2, V.int 4, V.int 8, V.int 16, V.int 32, V.int 64]) n1
    have h1 : upd H p1 (.lst [V.int 1, V.int 2, V.int 4, V.int 8, V.int 16, V.int 32, V.int 64]) p1 = some (.lst [V.int 1, V.int 2, V.int 4, V.int 8, V.int 16, V.int 32, V.int 64]) := upd_same
    generalize upd H p1 (.lst [V.int 1, V.int 2, V.int 4, V.int 8, V.int 16, V.int 32, V.int 64]) = H1 at s1 h1 ⊢
    have hll := hn.len
    have hat : atI [V.int 1, V.int 2, V.int 4, V.int 8, V.int 16, V.int 32, V.int 64] (((l.map V.str).length : Nat) : Int) = some (.int ((2 ^ m : Nat) : Int)) := by
      rw [List.length_map, hll]
      rcases (show m = 0 ∨ m = 1 ∨ m = 2 ∨ m = 3 ∨ m = 4 ∨ m = 5 ∨ m = 6 by omega) with rfl | rfl | rfl | rfl | rfl | rfl | rfl <;> exact atI_int (by decide) rfl
    have hp64 : 2 ^ m ≤ 64 := Nat.pow_le_pow_right (n := 2) (by decide) hm
    refine ⟨_, .inl (SqL.of (s1 _ _ hn.at_)), p1, _, _, _, rfl, rfl, SqL.of h1, hat, ?_⟩
    generalize hM : 2 ^ m = M at hp64 k ⊢
    refine ⟨_, rfl, _, rfl, by omega, by omega, fun D nD => lc_range (lo := 0) (n := M) (fun i H' => Same H1 H' ∧ H' D = some (.lst ((List.range i).map fun k => V.bl (c.holds (imB l (bitN k)))))) ⟨Same.new nD, upd_same⟩ ?_ ?_⟩
    · rintro i H2 hi ⟨s2, hD⟩
      refine ⟨rfl, _, rfl, _, rfl, _, rfl, q, i, m, l, ?_, hn.keep (s1.trans s2), by omega, fun H3 d s3 nd hd3 => ?_⟩
      · rw [Int.zero_add]; rfl
      · refine ⟨v, d, c, rowL l i, rfl, p.mono (T := fun _ => False) (Same.imm ((s1.trans s2).trans s3)), hd3, by rw [rowL_keys]; exact hw, hd, by omega, fun H4 s4 => ?_⟩
        refine ⟨_, s4 _ _ (s3 _ _ hD), by simp [sizeLine_eq]; omega, Same.mut ((s2.trans s3).trans s4) nD, ?_⟩
        rw [upd_same, holds_row hw, List.range_succ, List.map_append]
        rfl
    · rintro H2 ⟨s2, hD⟩
      exact k H2 D (s1.trans s2) hD
theorem inV_bools (g : Nat → Bool) : ∀ ns : List Nat, inV (.bl false) (ns.map fun k => V.bl (g k)) = ns.any fun k => !g k
  | [] => rfl
  | n :: ns => by
    have ih := inV_bools g ns
    unfold inV at ih ⊢
    rw [List.map_cons, List.any_cons, List.any_cons, ih]
    congr 1
    cases g n <;> rfl
theorem truths_in {c : Cond} (h : c.contacts.length ≤ 60) : inV (.bl false) ((List.range (2 ^ c.contacts.length)).map fun k => V.bl (c.holds (imB c.contacts (bitN k)))) = !dead c := by
  rw [inV_bools fun k => c.holds (imB c.contacts (bitN k))]
  cases hd : dead c with
  | true =>
    rw [Bool.not_true, ← Bool.not_eq_true, List.any_eq_true]
    rintro ⟨k, _, hk⟩
    rw [dead_no h hd] at hk
    cases hk
  | false =>
    rw [Bool.not_false, List.any_eq_true]
    obtain ⟨k, hk, e⟩ := holds_all (within_self c) (img c)
    rw [live_yes h hd, holds_row (within_self c)] at e
    exact ⟨k, List.mem_range.mpr hk, by rw [← e]; rfl⟩
def spCan : Sp := fun vs H Q _ => ∃ (v : V) (c : Cond), vs = [v] ∧ IsT H v c ∧ c.ok = true ∧ c.depth ≤ 20 ∧ c.size ≤ 60 ∧ (6 < c.contacts.length → dead c = false) ∧ ∀ H' : Hp, Same H H' → Q (.bl (!dead c)) H'
theorem ok_can (T : TOwn K mg) : FnAt P w K mg base CX0 "_law_can" 23 ["_law_told"] spCan := by
  have G__law_contacts := ok_contactsL (P := P) (w := w) (base := base) T 20
  have G__law_truths := ok_truths (P := P) (w := w) (base := base) T
  refine fnAt_ok T.d_can sc__law_can (fun vs H Q E h => ?_) (fun f cdv A outer s H vs Q E hr h => ?_)
  · obtain ⟨v, c, rfl, _⟩ := h; rfl
  · obtain ⟨v, c, rfl, p, hok, hd, hz, h6, k⟩ := h
    refine ⟨_, (pss_cons (ps_set (i := 1) sc__law_can.nd rfl (by first | exact Or.inl rfl | exact Or.inr rfl) (pe_callF G__law_contacts hr pass0 (pa_cons (pv 0) pa_nil)))
        (pss_one (ps_ret (pe_or (pe_cmpR op_gt (pe_callB call_len_seq (by rfl) T.z_len PySem.boot_len (pa_cons (pv 1) pa_nil)) pe_int (nomark _)) (pe_one (pe_cmpR op_in_seq pe_bl (pe_callF G__law_truths hr pass0 (pa_cons (pv 0) (pa_cons (pv 1) pa_nil))) rfl)))))), ?_⟩
    walk_at "rd"
    refine ⟨v, c, rfl, p, hd, by omega, fun H1 q s1 nq hq => ?_⟩
    have nms := contacts_names hok
    refine ⟨q, rfl, _, .inl (SqL.of hq), ?_⟩
    rw [List.length_map]
    by_cases hb : 6 < c.contacts.length
    · rw [decide_eq_true (show (6 : Int) < (c.contacts.length : Nat) by omega)]
      have k1 := k H1 s1
      rw [h6 hb] at k1
      exact iteT k1
    · rw [decide_eq_false (show ¬ (6 : Int) < (c.contacts.length : Nat) by omega)]
      refine iteF ⟨v, q, c, c.contacts, c.contacts.length, rfl, p.mono (T := fun _ => False) (Same.imm s1), within_self c, hd, hz, ⟨hq, rfl, nms, contacts_nodup c, fun n hn => isName_len' (nms n hn)⟩, by omega, fun H2 p2 s2 hp2 => ⟨p2, _, rfl, .inl (SqL.of hp2), rfl, by simp [List.all_map, flatV], ?_⟩⟩
      rw [if_neg Bool.false_ne_true, truths_in (by omega)]
      exact k H2 (s1.trans s2)
end

--%% MK
/-! ## k42: an image, and what is told -/
def rIsDct (K : PySem.W.Frag) : List V → Hp → VK → Prop := fun xs H Q => ∃ a kvs, xs = [.ref a, .ty "dict"] ∧ H a = some (.dK kvs) ∧ Q (.bl true) H
theorem call_isDct {X : Cx} : CallR X (.builtin "isinstance") (rIsDct X.K) := by
  intro pins s σ H xs us Q I r h
  obtain ⟨a, kvs, rfl, ha, q⟩ := h
  exact call_isi pins s σ H _ us Q I r ⟨_, _, _, _, true, rfl, .ty "dict", .base (.dK ha), kit_ty (by decide +kernel), q⟩
theorem dL_keysB (l : List Str) (b : Nat → Bool) : ((dL V.bl (dictB l b)).map fun kv => kV kv.1) = l.map V.str := by
  unfold dL dictB
  rw [List.map_map, List.map_map]
  rfl
theorem upd_back {H : Hp} {a : Addr} {o : HO} (h : H a = some o) : upd H a o = H := by
  funext b
  by_cases e : b = a
  · rw [e, upd_same, h]
  · rw [upd_ne e]
theorem holds_dictB {l : List Str} {c : Cond} (w : c.within l = true) (b : Nat → Bool) : c.holds (imL (dictB l b)) = c.holds (imB l b) :=
  Cond.holds_congr (fun n hn => by unfold imL; rw [dictB_get hn]; rfl) w
theorem pe_fldK {X : Cx} {e : Expr} {f : Str} {pos : Pos} {ta : TE} (K : PySem.W.Frag) (h : X.K = K) (he : PE X e ta) (hb : attributeBase e f X.env (eval e X.env) = eval e X.env) : PE X (.Attribute e f pos) (tFld K ta f) := h ▸ pe_fld he hb

/-! ## tuples of names as data -/
theorem strOk_name {n : Str} (h : isName n = true) : PyData.strOk n = true := by
  unfold isName isWord at h
  simp only [Bool.and_eq_true, List.all_eq_true] at h
  unfold PyData.strOk
  rw [Array.all_eq_true_iff_forall_mem]
  intro x hx
  have := h.1.1.1 x (by simpa using hx)
  unfold isLow at this
  have := of_decide_eq_true this
  exact decide_eq_true (by omega)
theorem names_lay : ∀ {l : List Str}, (∀ x ∈ l, isName x = true) → PyData.canLayAll0 (l.map PyData.str) = true
  | [], _ => rfl
  | n :: l, h => by
    show (PyData.strOk n && PyData.canLayAll0 (l.map PyData.str)) = true
    rw [strOk_name (h n List.mem_cons_self), names_lay fun x hx => h x (List.mem_cons_of_mem _ hx)]
    rfl
theorem names_flat : ∀ l : List Str, PyData.depthAll (l.map PyData.str) = 0
  | [] => rfl
  | n :: l => by
    rw [List.map_cons, PyData.depthAll, names_flat l]
    rfl
theorem names_dp {K : PySem.W.Frag} {H : Hp} : ∀ l : List Str, DpAll K H (l.map V.str) (l.map PyData.str)
  | [] => .nil
  | n :: l => .cons (.str n) (names_dp l)
theorem names_shapedT {l : List Str} (h : ∀ x ∈ l, isName x = true) : SeqAt.shaped (.tuple (l.map PyData.str)) = true := shaped_of (names_lay h) (by rw [PyData.depth, names_flat]; omega)
theorem names_eqvT {l : List Str} (h : ∀ x ∈ l, isName x = true) : PyData.eqv (.tuple (l.map PyData.str)) (.tuple (l.map PyData.str)) = true := SeqAt.eqv_refl _ (names_lay h)
/-- a list that was there ahead of the sheet stays -/
theorem K3.sqL {K : PySem.W.Frag} {a ln dn : Addr} {xs : List V} {H0 H H' : Hp} (h : SqL K H0 a xs) (s : Same H0 H) (k : K3 ln dn dn H H') (n1 : H0 ln = none) (n2 : H0 dn = none) : SqL K H' a xs := by
  rcases h with (h | ⟨o, h⟩) | h
  · exact .inl (.inl (k _ _ (s _ _ h) (ne_of_none h n1) (ne_of_none h n2) (ne_of_none h n2)))
  · exact .inl (.inr ⟨o, k _ _ (s _ _ h) (ne_of_none h n1) (ne_of_none h n2) (ne_of_none h n2)⟩)
  · exact .inr h
theorem NamesU.k3 {q ln dn : Addr} {l : List Str} {m : Nat} {H0 H H' : Hp} (h : NamesU H0 q l m) (s : Same H0 H) (k : K3 ln dn dn H H') (n1 : H0 ln = none) (n2 : H0 dn = none) : NamesU H' q l m :=
  ⟨k _ _ (s _ _ h.at_) (ne_of_none h.at_ n1) (ne_of_none h.at_ n2) (ne_of_none h.at_ n2), h.len, h.ok, h.nd, h.sm⟩

theorem names_shapedL {l : List Str} (h : ∀ x ∈ l, isName x = true) : SeqAt.shaped (.list (l.map PyData.str)) = true := shaped_of (names_lay h) (by rw [PyData.depth, names_flat]; omega)
theorem names_eqvL {l : List Str} (h : ∀ x ∈ l, isName x = true) : PyData.eqv (.list (l.map PyData.str)) (.list (l.map PyData.str)) = true := SeqAt.eqv_refl _ (names_lay h)
abbrev s__law_image : Stmt := top 67
theorem sc__law_image : FnScope ["_law_found", "_law_told", "_law_names_here", "_law_name"] ["_law_found", "_law_told"] (defScope s__law_image) := ⟨rfl, rfl, rfl, by decide +kernel, rfl, by decide +kernel, by decide +kernel⟩
abbrev s__law_right : Stmt := top 71
theorem sc__law_right : FnScope ["_law_found", "_law_ladder", "_law_due", "_law_others", "_law_number", "_law_told"] ["_law_found", "_law_ladder"] (defScope s__law_right) := ⟨rfl, rfl, rfl, by decide +kernel, rfl, by decide +kernel, by decide +kernel⟩
theorem imV_keys (ps : List (Nat × Addr)) : ((imV ps).map fun kv => kV kv.1) = natV (ps.map (·.1)) := by
  unfold imV natV
  rw [List.map_map, List.map_map]
  rfl
theorem imV_none : ∀ {ps : List (Nat × Addr)} {j : Nat}, j ∉ ps.map (·.1) → valV (imV ps) (Sum.inl (j : Int) : Key) = none
  | [], _, _ => rfl
  | (k, a) :: ps, j, h => by
    have h1 : k ≠ j := fun e => h (by rw [e]; exact List.mem_cons_self)
    have h2 : j ∉ ps.map (·.1) := fun e => h (List.mem_cons_of_mem _ e)
    have ih := imV_none h2
    unfold valV at ih ⊢
    rw [show imV ((k, a) :: ps) = (Sum.inl (k : Int), V.ref a) :: imV ps from rfl, List.find?_cons_of_neg (by simp; omega)]
    exact ih
theorem imV_some : ∀ {ps : List (Nat × Addr)} {q : Nat × Addr}, (ps.map (·.1)).Nodup → q ∈ ps → valV (imV ps) (Sum.inl (q.1 : Int) : Key) = some (.ref q.2)
  | (k, a) :: ps, q, hn, h => by
    have hn' := List.nodup_cons.mp hn
    rcases List.mem_cons.mp h with rfl | h
    · unfold valV
      rw [show imV ((k, a) :: ps) = (Sum.inl (k : Int), V.ref a) :: imV ps from rfl, List.find?_cons_of_pos (by simp)]
      rfl
    · have h1 : k ≠ q.1 := fun e => hn'.1 (by show k ∈ ps.map (·.1); rw [e]; exact List.mem_map.mpr ⟨q, h, rfl⟩)
      have ih := imV_some hn'.2 h
      unfold valV at ih ⊢
      rw [show imV ((k, a) :: ps) = (Sum.inl (k : Int), V.ref a) :: imV ps from rfl, List.find?_cons_of_neg (by simp; omega)]
      exact ih
structure TRight (K : PySem.W.Frag) (mg : Str → Option Value) (cs : Cs) (cc : Addr) (xc : Xc) : Prop where
  own : TOwn K mg
  lad : TLad K mg cs cc xc
  told : TTold K mg cs.cl
  d_image : DefAt K mg "_law_image" s__law_image ["_law_found", "_law_told"]
  d_right : DefAt K mg "_law_right" s__law_right ["_law_found", "_law_ladder"]
  z_len : mg "len" = none
  z_range : mg "range" = none
  z_isinstance : mg "isinstance" = none
  z_dict : mg "dict" = none
  z_tuple : mg "tuple" = none
  z_bool : mg "bool" = none
  z_list : mg "list" = none
section
variable {P : Program} {w : World} {K : PySem.W.Frag} {mg : Str → Option Value} {base : Heap} {cs : Cs} {cc : Addr} {xc : Xc}
def spImage : Sp := fun vs H Q _ => ∃ (v : V) (d : Addr) (c : Cond), vs = [.ref d, v] ∧ IsT H v c ∧ H d = some (.dK (dL V.bl (dictB c.contacts (img c)))) ∧ c.ok = true ∧ c.depth ≤ 20 ∧ c.size ≤ 60 ∧ dead c = false ∧ ∀ H' : Hp, Same H H' → Q (.bl true) H'
theorem ok_image (T : TRight K mg cs cc xc) : FnAt P w K mg base CX0 "_law_image" 23 ["_law_found", "_law_told"] spImage := by
  have G__law_contacts := ok_contactsL (P := P) (w := w) (base := base) T.own 20
  have G__law_holds := ok_lholds (P := P) (w := w) (base := base) T.own.lh 20
  refine fnAt_ok T.d_image sc__law_image (fun vs H Q E h => ?_) (fun f cdv A outer st H vs Q E hr h => ?_)
  · obtain ⟨v, d, c, rfl, _⟩ := h; rfl
  · obtain ⟨v, d, c, rfl, p, hd, hok, hdp, hsz, hlv, k⟩ := h
    have hu := hu_of hr
    refine ⟨_, (pss_cons (ps_set (i := 2) sc__law_image.nd rfl (by first | exact Or.inl rfl | exact Or.inr rfl) (pe_callF G__law_contacts hr pass0 (pa_cons (pv 1) pa_nil)))
        (C8.pss_cut (ps_if (PW.pt (pw_or (pt_not (pt_val (pe_callB call_isDct (by rfl) T.z_isinstance (by decide +kernel) (pa_cons (pv 0) (pa_cons (pe_bltn (v := .ty "dict") (by rfl) T.z_dict (by decide +kernel) rfl) pa_nil))))) (pw_or1 (pt_cmpR (op_neD hr.units) (pe_callTy (call_list_dK rfl) (by rfl) T.z_list (show PySem.bootBuiltins "list" = some (.type "list") by decide +kernel) (pa_cons (pv 0) pa_nil)) (pv 2) (nomark _))))) (pss_one (ps_ret pe_bl)) pss_nil)
        (pss_cons (ps_for PassesOwn.never rfl (pi_list (pv 2)) (pg_name (i := 3) sc__law_image.nd rfl (by first | exact Or.inl rfl | exact Or.inr rfl)) (pss_one (ps_if (pt_not (pt_val (pe_callB call_isBool (by rfl) T.z_isinstance (by decide +kernel) (pa_cons (pe_dget (by exact hu) (pv 0) (pv 3) (fun _ _ => rfl)) (pa_cons (pe_bltn (v := .ty "bool") (by rfl) T.z_bool (by decide +kernel) rfl) pa_nil))))) (pss_one (ps_ret pe_bl)) pss_nil)))
        (pss_one (ps_ret (pe_cmpR op_eq (pe_callF G__law_holds hr pass0 (pa_cons (pv 1) (pa_cons (pv 0) pa_nil))) pe_bl (nomark _))))))), ?_⟩
    walk_at "rd"
    refine ⟨v, c, rfl, p, hdp, by omega, fun H1 q s1 nq hq => ?_⟩
    have h60 : c.contacts.length ≤ 60 := Nat.le_trans (contacts_size c) hsz
    have nms := contacts_names hok
    refine ⟨fun σ' H' => σ' = [some (.ref d), some v, some (.ref q), none] ∧ Same H1 H', ?_, ?_⟩
    · walk_at "rd"
      refine ⟨d, _, rfl, s1 _ _ hd, true, rfl, iteF ⟨d, _, rfl, s1 _ _ hd, fun q1 n1 => ?_⟩⟩
      rw [dL_keysB]
      have t1 := Same.new (o := .lst (c.contacts.map V.str)) n1
      refine ⟨_, _, .lst (SqL.of upd_same) (names_dp _), .lst (SqL.of (t1 _ _ hq)) (names_dp _), names_shapedL nms, names_shapedL nms, _, rfl, ?_⟩
      rw [names_eqvL nms]
      exact iteF t1
    rintro σ' H2 ⟨rfl, s2⟩
    have hd2 := s2 _ _ (s1 _ _ hd)
    have hq2 := s2 _ _ hq
    refine ⟨_, rfl, q, rfl, ⟨_, SqL.of hq2⟩, for_it walk_list (fun i σ H' => ∃ v3 : Option V, σ = [some (.ref d), some v, some (.ref q), v3] ∧ Same H2 H') ⟨none, rfl, Same.refl _⟩ (fun i σ H' _ ⟨_, _, s⟩ => SqL.of (s _ _ hq2)) ?_ ?_⟩
    · rintro i y σ H3' H3 hi ⟨v3, rfl, s3⟩ ⟨rfl, hy⟩
      rw [List.getElem?_map] at hy
      obtain ⟨n, hn, rfl⟩ := Option.map_eq_some_iff.mp hy
      walk_at "rd"
      refine ⟨_, rfl, _, rfl, d, .bl (img c (ixOf c.contacts n)), rfl, .inl ⟨_, .inr n, .inl (s3 _ _ hd2), rfl, by rw [dL_get, dictB_get (List.mem_of_getElem? hn)]; rfl⟩, ?_⟩
      exact ⟨rfl, iteF s3⟩
    rintro σ H3 ⟨v3, rfl, s3⟩
    walk_at "rd"
    refine ⟨v, d, c, dictB c.contacts (img c), rfl, p.mono (T := fun _ => False) (Same.imm ((s1.trans s2).trans s3)), s3 _ _ hd2, by rw [dictB_keys]; exact within_self c, hdp, by omega, fun H4 s4 => ?_⟩
    rw [holds_dictB (within_self c), live_yes h60 hlv]
    exact ⟨scal_bb, k H4 (((s1.trans s2).trans s3).trans s4)⟩
def spRight (K : PySem.W.Frag) (cs : Cs) : Sp := fun vs H Q _ => ∃ (v : V) (l : Lad) (t p d : Addr) (ps : List (Nat × Addr)), vs = [.ref t, v] ∧ IsL K cs H v l ∧ l.rs.length ≤ 30 ∧ (∀ r ∈ l.rs, r.c.ok = true ∧ r.c.depth ≤ 20 ∧ r.c.size ≤ 60 ∧ (6 < r.c.contacts.length → dead r.c = false)) ∧
  H t = some (.tup [.ref p, .ref d]) ∧ H p = some (.tup (natV (gone l.rs l.rs.length))) ∧ H d = some (.dK (imV ps)) ∧ ImgsAt l.rs H ps (left l.rs l.rs.length) ∧ ∀ H' : Hp, Same H H' → Q (.bl true) H'
theorem ok_right (T : TRight K mg cs cc xc) : FnAt P w K mg base CX0 "_law_right" 25 ["_law_found", "_law_ladder"] (spRight K cs) := by
  have G__law_can := ok_can (P := P) (w := w) (base := base) T.own
  have G__law_whole := ok_wholeB (P := P) (w := w) (base := base) T.own
  have G__law_image := ok_image (P := P) (w := w) (base := base) T
  have G_told : DispAt P w K mg base CX0 cs.cl.has "told" 21 ["self"] (spTold cs.cl 20) := disp_told T.told 20
  refine fnAt_ok T.d_right sc__law_right (fun vs H Q E h => ?_) (fun f cdv A outer st H vs Q E hr h => ?_)
  · obtain ⟨v, l, t, p, d, ps, rfl, _⟩ := h; rfl
  · obtain ⟨v, l, t, p, d, ps, rfl, hL, hl30, hall, ht, hp, hd, him, k⟩ := h
    have hu := hu_of hr
    refine ⟨_, (C8.pss_cut (ps_if (PW.pt (pw_or (pt_not (pt_val (pe_callB call_isTup (by rfl) T.z_isinstance (by decide +kernel) (pa_cons (pv 0) (pa_cons (pe_bltn (v := .ty "tuple") (by rfl) T.z_tuple (by decide +kernel) rfl) pa_nil))))) (pw_or (pt_cmpR op_ne (pe_callB call_len_seq (by rfl) T.z_len PySem.boot_len (pa_cons (pv 0) pa_nil)) pe_int (nomark _)) (pw_or1 (pt_not (pt_val (pe_callB call_isTup (by rfl) T.z_isinstance (by decide +kernel) (pa_cons (pe_ix ix_tup (pv 0) pe_int (fun _ _ => rfl)) (pa_cons (pe_bltn (v := .ty "tuple") (by rfl) T.z_tuple (by decide +kernel) rfl) pa_nil))))))))) (pss_one (ps_ret pe_bl)) pss_nil)
        (pss_cons (ps_set (i := 2) sc__law_right.nd rfl (by first | exact Or.inl rfl | exact Or.inr rfl) (pe_lst pa_nil))
        (pss_cons (ps_set (i := 3) sc__law_right.nd rfl (by first | exact Or.inl rfl | exact Or.inr rfl) (pe_lst pa_nil))
        (pss_cons (ps_for PassesOwn.never rfl (pi_range1 rfl T.z_range (pa_cons (pe_callB call_len_seq (by rfl) T.z_len PySem.boot_len (pa_cons (pe_fld (pv 1) rfl) pa_nil)) pa_nil)) (pg_name (i := 4) sc__law_right.nd rfl (by first | exact Or.inl rfl | exact Or.inr rfl)) (pss_cons (ps_set (i := 5) sc__law_right.nd rfl (by first | exact Or.inl rfl | exact Or.inr rfl) (pe_methD0 G_told hr pass0 (pe_fld (pe_ix ix_tup (pe_fld (pv 1) rfl) (pv 4) (fun _ _ => rfl)) rfl)))
          (pss_one (ps_if (pt_val (pe_callF G__law_can hr pass0 (pa_cons (pv 5) pa_nil))) (pss_one (ps_expr (pe_bm PySem.F.plainAttrs_list PySem.F.slot_list_append PySem.F.type_list_append mt_append (pv 3) (pa_cons (pv 4) pa_nil)))) (pss_one (ps_expr (pe_bm PySem.F.plainAttrs_list PySem.F.slot_list_append PySem.F.type_list_append mt_append (pv 2) (pa_cons (pv 4) pa_nil))))))))
        (C8.pss_cut (ps_if (PW.pt (pw_or (pt_cmpR (op_neD hr.units) (pe_callTy call_list_of (by rfl) T.z_list (show PySem.bootBuiltins "list" = some (.type "list") by decide +kernel) (pa_cons (pe_ix ix_tup (pv 0) pe_int (fun _ _ => rfl)) pa_nil)) (pv 2) (nomark _)) (pw_or (pt_not (pt_val (pe_callB call_isDct (by rfl) T.z_isinstance (by decide +kernel) (pa_cons (pe_ix ix_tup (pv 0) pe_int (fun _ _ => rfl)) (pa_cons (pe_bltn (v := .ty "dict") (by rfl) T.z_dict (by decide +kernel) rfl) pa_nil))))) (pw_or1 (pt_cmpR (op_neD hr.units) (pe_callTy (call_list_dK rfl) (by rfl) T.z_list (show PySem.bootBuiltins "list" = some (.type "list") by decide +kernel) (pa_cons (pe_ix ix_tup (pv 0) pe_int (fun _ _ => rfl)) pa_nil)) (pv 3) (nomark _)))))) (pss_one (ps_ret pe_bl)) pss_nil)
        (pss_cons (ps_for PassesOwn.never rfl (pi_list (pe_op op_cat (pv 2) (pv 3))) (pg_name (i := 4) sc__law_right.nd rfl (by first | exact Or.inl rfl | exact Or.inr rfl)) (pss_one (ps_if (PW.pt (pw_and (pt_cmpR op_in_seq (pv 4) (pv 2) rfl) (pw_and1 (pt_cmp (pc_din hu (pv 4) (pe_ix ix_tup (pv 0) pe_int (fun _ _ => rfl))))))) (pss_one (ps_ret pe_bl)) pss_nil)))
        (C8.pss_cut (ps_if (pt_cmpR (op_neE hr.units0) (pe_lc (own := [("_law_number", 4)]) (g := gName 4) rfl sc__law_right.nd (pi_list (pe_op op_cat (pe_callTy call_list_of (by rfl) T.z_list (show PySem.bootBuiltins "list" = some (.type "list") by decide +kernel) (pa_cons (pe_ix ix_tup (pv 0) pe_int (fun _ _ => rfl)) pa_nil)) (pe_callTy (call_list_dK rfl) (by rfl) T.z_list (show PySem.bootBuiltins "list" = some (.type "list") by decide +kernel) (pa_cons (pe_ix ix_tup (pv 0) pe_int (fun _ _ => rfl)) pa_nil)))) (blkOk_by (own := [("_law_number", 4)]) (N := ["_law_found", "_law_ladder", "_law_due", "_law_others", "_law_number", "_law_told"]) (sc := defScope s__law_right) (by decide +kernel)) (fun _ _ _ _ _ => pg_name (i := 4) sc__law_right.nd rfl (Or.inl rfl)) (fun _ _ _ _ _ => (pts_one (pt_not (pt_val (pe_callF G__law_whole hr pass0 (pa_cons (pv 4) pa_nil)))))) (fun _ _ _ _ _ => (pv 4))) (pe_lst pa_nil) (nomark _)) (pss_one (ps_ret pe_bl)) pss_nil)
        (pss_one (ps_ret (pe_cmpR (op_eqE hr.units0) (pe_lc (own := [("_law_number", 4)]) (g := gName 4) rfl sc__law_right.nd (pi_list (pv 3)) (blkOk_by (own := [("_law_number", 4)]) (N := ["_law_found", "_law_ladder", "_law_due", "_law_others", "_law_number", "_law_told"]) (sc := defScope s__law_right) (by decide +kernel)) (fun _ _ _ _ _ => pg_name (i := 4) sc__law_right.nd rfl (Or.inl rfl)) (fun _ _ _ _ _ => (pts_one (pt_not (pt_val (pe_callF G__law_image hr pass0 (pa_cons (pe_dget (by exact hu) (pe_ix (ix_tupK K rfl) (pv 0) pe_int (fun _ _ => rfl)) (pv 4) (fun _ _ => rfl)) (pa_cons (pe_methD0 G_told hr pass0 (pe_fldK K rfl (pe_ix (ix_tupK K rfl) (pe_fldK K rfl (pv 1) rfl) (pv 4) (fun _ _ => rfl)) rfl)) pa_nil))))))) (fun _ _ _ _ _ => (pv 4))) (pe_lst pa_nil) (nomark _))))))))))), ?_⟩
    obtain ⟨a, dx, ti, tt, tr, ws, rfl, ha, hi, ho, htr, htw⟩ := id hL
    have hlen := htw.length
    refine ⟨fun σ' H' => σ' = [some (.ref t), some (.ref a), none, none, none, none] ∧ Same H H', ?_, ?_⟩
    · walk_at "rd"
      refine ⟨t, _, rfl, ht, true, rfl, iteF ⟨_, .inr (SqT.of ht), ?_⟩⟩
      rw [decide_eq_true (show ((([V.ref p, V.ref d] : List V).length : Nat) : Int) = 2 from rfl)]
      exact iteF ⟨t, _, 0, .ref p, rfl, rfl, SqT.of ht, rfl, p, _, rfl, hp, true, rfl, iteF (Same.refl _)⟩
    rintro σ' H1 ⟨rfl, s1⟩
    walk_at "rd"
    refine ⟨Nat.zero_le _, fun p2 np2 => ⟨Nat.zero_le _, fun p3 np3 => ?_⟩⟩
    have t2 := Same.new (o := .lst []) np2
    have t3 := Same.new (o := .lst []) np3
    have s2 := (s1.trans t2).trans t3
    have hp2 := t3 _ _ (upd_same (H := H1) (a := p2) (o := .lst []))
    have hp3 := upd_same (H := upd H1 p2 (.lst [])) (a := p3) (o := .lst [])
    have n2 : H p2 = none := s1.free np2
    have n3 : H p3 = none := (s1.trans t2).free np3
    have n23 : p2 ≠ p3 := fun e => by rw [← e, upd_same] at np3; cases np3
    generalize upd (upd H1 p2 (.lst [])) p3 (.lst []) = H2 at s2 hp2 hp3 ⊢
    have htrT : ∀ {H'}, Same H H' → SqT K H' tr ws := fun s => htr.elim (fun e => SqT.of (s _ _ e)) fun h => h _
    have toldAt : ∀ (i : Nat) (z : V), ws[i]? = some z → ∃ (r : Rg) (ar dr a' C' dx' : Addr) (ev : V) (fs' : List (Str × V)), l.rs[i]? = some r ∧ z = .ref ar ∧ (∀ {H'}, Same H H' → H' ar = some (.ins cs.rg dr [("part", .ref a'), ("end", ev)]) ∧ H' a' = some (.ins C' dx' fs') ∧ IsP cs.cl H' (.ref a') r.c) ∧ cs.cl.has C' ∧ List.lookup ("told" : Str) fs' = none := by
      intro i z hz
      obtain ⟨r, hr', ar, dr, pv, ev, rfl, hrg, hpp, _⟩ := htw.at hz
      obtain ⟨a', C', dx', fs', rfl, ha', hC', hl'⟩ := meth_of (m := "told") (by decide +kernel) hpp
      exact ⟨r, ar, dr, a', C', dx', ev, fs', hr', rfl, fun s => ⟨s _ _ hrg, s _ _ ha', hpp.mono (Same.imm s)⟩, hC', hl'⟩
    have gl : ∀ i, (natV (gone l.rs i)).length ≤ i := fun i => by rw [natV_len]; unfold gone; have := List.length_filter_le (fun j => dd l.rs j) (List.range i); rw [List.length_range] at this; exact this
    have ll : ∀ i, (natV (left l.rs i)).length ≤ i := fun i => by rw [natV_len]; unfold left; have := List.length_filter_le (fun j => !dd l.rs j) (List.range i); rw [List.length_range] at this; exact this
    refine ⟨_, rfl, a, _, dx, _, _, rfl, s2 _ _ ha, T.lad.c_Ladder.cl, T.lad.nr_ld, lkL3, tr, rfl, ws, .inr (htrT s2), _, rfl, by omega, by omega, for_range (lo := 0) (n := ws.length) (fun i σ H' => ∃ v4 v5 : Option V, σ = [some (.ref t), some (.ref a), some (.ref p2), some (.ref p3), v4, v5] ∧ Same H H' ∧ H' p2 = some (.lst (natV (gone l.rs i))) ∧ H' p3 = some (.lst (natV (left l.rs i)))) ⟨none, none, rfl, s2, hp2, hp3⟩ ?_ ?_⟩
    · rintro i σ H3 hi ⟨v4, v5, rfl, s3, hp23, hp33⟩
      obtain ⟨z, hz⟩ : ∃ z, ws[i]? = some z := ⟨_, List.getElem?_eq_getElem hi⟩
      obtain ⟨r, ar, dr, a', C', dx', ev, fs', hr', rfl, at3, hC', hl'⟩ := toldAt i z hz
      obtain ⟨o1, o2, o3, o6⟩ := hall r (List.mem_of_getElem? hr')
      obtain ⟨hrg3, ha3, pp3⟩ := at3 s3
      have edd : dd l.rs i = dead r.c := by unfold dd; rw [hr']
      walk_at "rd"
      rw [Int.zero_add]
      refine ⟨_, rfl, a, _, dx, _, _, rfl, s3 _ _ ha, T.lad.c_Ladder.cl, T.lad.nr_ld, lkL3, _, rfl, tr, ws, _, .ref ar, rfl, rfl, htrT s3, atI_nat hz, ar, _, dr, _, _, rfl, hrg3, T.lad.c_Rung.cl, T.lad.np_rg, lkR1, a', C', dx', fs', rfl, ha3, hC', hl', a', dx', fs', r.c, rfl, ha3, pp3, o2, by omega, fun H4 v s34 pv => ⟨v, r.c, rfl, pv, o1, o2, o3, o6, fun H5 s45 => ⟨_, rfl, ?_⟩⟩⟩
      have s35 := s34.trans s45
      have hp25 := s35 _ _ hp23
      have hp35 := s35 _ _ hp33
      have s05 := s3.trans s35
      have g1 := gl i
      have g2 := ll i
      cases hdd : dead r.c with
      | true =>
        rw [gone_t (edd.trans hdd), left_t (edd.trans hdd)]
        exact iteF ⟨_, rfl, .inl ⟨rfl, _, SqL.of hp25⟩, _, rfl, p2, _, _, rfl, rfl, hp25, by rw [sizeLine_eq]; omega, _, _, ⟨rfl, rfl⟩, Same.mut s05 n2, by rw [upd_same, natV_app]; rfl, by rw [upd_ne n23.symm]; exact hp35⟩
      | false =>
        rw [gone_f (edd.trans hdd), left_f (edd.trans hdd)]
        exact iteT ⟨_, rfl, .inl ⟨rfl, _, SqL.of hp35⟩, _, rfl, p3, _, _, rfl, rfl, hp35, by rw [sizeLine_eq]; omega, _, _, ⟨rfl, rfl⟩, Same.mut s05 n3, by rw [upd_ne n23]; exact hp25, by rw [upd_same, natV_app]; rfl⟩
    rintro σ H3 ⟨v4, v5, rfl, s3, hp23, hp33⟩
    rw [hlen] at hp23 hp33
    refine ⟨fun σ' H' => σ' = [some (.ref t), some (.ref a), some (.ref p2), some (.ref p3), v4, v5] ∧ Same H3 H', ?_, ?_⟩
    · walk_at "rd"
      have ht3 := s3 _ _ ht
      refine ⟨t, _, 0, .ref p, rfl, rfl, SqT.of ht3, rfl, p, rfl, _, .inr (SqT.of (s3 _ _ hp)), fun q1 m1 => ?_⟩
      have u1 := Same.new (o := .lst (natV (gone l.rs l.rs.length))) m1
      refine ⟨_, _, .lst (SqL.of upd_same) (nat_dp _), .lst (SqL.of (u1 _ _ hp23)) (nat_dp _), nat_shaped _, nat_shaped _, _, rfl, ?_⟩
      rw [nat_eqv]
      refine iteF ⟨t, _, 1, .ref d, rfl, rfl, SqT.of (u1 _ _ ht3), rfl, d, _, rfl, u1 _ _ (s3 _ _ hd), true, rfl, iteF ⟨t, _, 1, .ref d, rfl, rfl, SqT.of (u1 _ _ ht3), rfl, d, _, rfl, u1 _ _ (s3 _ _ hd), fun q2 m2 => ?_⟩⟩
      rw [imV_keys, him.1]
      have u2 := Same.new (o := .lst (natV (left l.rs l.rs.length))) m2
      refine ⟨_, _, .lst (SqL.of upd_same) (nat_dp _), .lst (SqL.of (u2 _ _ (u1 _ _ hp33))) (nat_dp _), nat_shaped _, nat_shaped _, _, rfl, ?_⟩
      rw [nat_eqv]
      exact iteF (u1.trans u2)
    rintro σ' H4 ⟨rfl, s4⟩
    have s04 := s3.trans s4
    have hp24 := s4 _ _ hp23
    have hp34 := s4 _ _ hp33
    have gl30 := gl l.rs.length
    have ll30 := ll l.rs.length
    walk_at "rd"
    refine ⟨_, rfl, _, rfl, p2, p3, _, _, rfl, rfl, hp24, hp34, line_ge (by omega), fun pc npc => ?_⟩
    have t5 := Same.new (o := .lst (natV (gone l.rs l.rs.length) ++ natV (left l.rs l.rs.length))) npc
    have hpc := upd_same (H := H4) (a := pc) (o := .lst (natV (gone l.rs l.rs.length) ++ natV (left l.rs l.rs.length)))
    have s05 := s04.trans t5
    have hp25 := t5 _ _ hp24
    have hp35 := t5 _ _ hp34
    refine ⟨pc, rfl, ⟨_, SqL.of hpc⟩, for_it walk_list (fun i σ H' => ∃ v4 : Option V, σ = [some (.ref t), some (.ref a), some (.ref p2), some (.ref p3), v4, v5] ∧ Same (upd H4 pc (.lst (natV (gone l.rs l.rs.length) ++ natV (left l.rs l.rs.length)))) H') ⟨v4, rfl, Same.refl _⟩ (fun i σ H' _ ⟨_, _, s⟩ => SqL.of (s _ _ hpc)) ?_ ?_⟩
    · rintro i y σ H6' H6 hi ⟨v4, rfl, s6⟩ ⟨rfl, hy⟩
      rw [← natV_app] at hy
      unfold natV at hy
      rw [List.getElem?_map] at hy
      obtain ⟨j, hj, rfl⟩ := Option.map_eq_some_iff.mp hy
      walk_at "rd"
      have s06 := s05.trans s6
      refine ⟨p2, _, rfl, .inl (SqL.of (s6 _ _ hp25)), rfl, flat_nat _, _, rfl, ?_⟩
      rw [if_neg Bool.false_ne_true, inV_nat]
      by_cases hg : j ∈ gone l.rs l.rs.length
      · rw [decide_eq_true hg]
        have hnl : j ∉ ps.map (·.1) := by
          rw [him.1]
          intro hl'
          have h1 := (List.mem_filter.mp hg).2
          have h2 := (List.mem_filter.mp hl').2
          rw [h1] at h2
          cases h2
        refine iteT ⟨_, rfl, _, rfl, t, _, 1, .ref d, rfl, rfl, SqT.of (s06 _ _ ht), rfl, d, _, rfl, DGet.k (k := .inl (j : Int)) (s06 _ _ hd), _, rfl, ?_⟩
        rw [imV_none hnl]
        exact iteF s6
      · rw [decide_eq_false hg]
        exact iteF s6
    rintro σ H6 ⟨v4, rfl, s6⟩
    have s06 := s05.trans s6
    have ht6 := s06 _ _ ht
    refine ⟨fun σ' H' => σ' = [some (.ref t), some (.ref a), some (.ref p2), some (.ref p3), v4, v5] ∧ Same H6 H', ?_, ?_⟩
    · walk_at "rd"
      refine ⟨_, rfl, t, _, 0, .ref p, rfl, rfl, SqT.of ht6, rfl, p, rfl, _, .inr (SqT.of (s06 _ _ hp)), fun q1 m1 => ⟨_, rfl, t, _, 1, .ref d, rfl, rfl, SqT.of (Same.new m1 _ _ ht6), rfl, d, _, rfl, Same.new m1 _ _ (s06 _ _ hd), fun q2 m2 => ?_⟩⟩
      rw [imV_keys, him.1]
      have u1 := Same.new (o := .lst (natV (gone l.rs l.rs.length))) m1
      have u2 := Same.new (o := .lst (natV (left l.rs l.rs.length))) m2
      refine ⟨q1, q2, _, _, rfl, rfl, u2 _ _ upd_same, upd_same, line_ge (by omega), fun q3 m3 => ?_⟩
      have u3 := Same.new (o := .lst (natV (gone l.rs l.rs.length) ++ natV (left l.rs l.rs.length))) m3
      have h3 := upd_same (H := upd (upd H6 q1 (.lst (natV (gone l.rs l.rs.length)))) q2 (.lst (natV (left l.rs l.rs.length)))) (a := q3) (o := .lst (natV (gone l.rs l.rs.length) ++ natV (left l.rs l.rs.length)))
      have s6A := (u1.trans u2).trans u3
      generalize upd (upd (upd H6 q1 (.lst (natV (gone l.rs l.rs.length)))) q2 (.lst (natV (left l.rs l.rs.length)))) q3 (.lst (natV (gone l.rs l.rs.length) ++ natV (left l.rs l.rs.length))) = HA at h3 s6A ⊢
      refine ⟨q3, rfl, ⟨_, SqL.of h3⟩, fun D nD => lc_it walk_list (fun i H' => Same HA H' ∧ H' D = some (.lst [])) ⟨Same.new nD, upd_same⟩ (fun i H' _ z => SqL.of (z.1 _ _ h3)) ?_ ?_⟩
      · rintro i y H8' H8 hi ⟨s8, hD⟩ ⟨rfl, hy⟩
        rw [← natV_app] at hy
        unfold natV at hy
        rw [List.getElem?_map] at hy
        obtain ⟨j, hj, rfl⟩ := Option.map_eq_some_iff.mp hy
        refine ⟨rfl, ?_⟩
        walk_at "rd"
        exact ⟨_, rfl, true, rfl, iteF ⟨s8, hD⟩⟩
      · rintro H8 ⟨s8, hD⟩
        exact ⟨Nat.zero_le _, fun p9 np9 => ⟨D, p9, [], rfl, rfl, SqL.of (Same.new np9 _ _ hD), SqL.of upd_same, _, rfl, iteF ((s6A.trans s8).trans (Same.new np9))⟩⟩
    rintro σ' H7 ⟨rfl, s7⟩
    have s07 := s06.trans s7
    have hp37 := s7 _ _ (s6 _ _ hp35)
    walk_at "rd"
    refine ⟨_, rfl, p3, rfl, ⟨_, SqL.of hp37⟩, fun D nD => lc_it walk_list (fun i H' => Same H7 H' ∧ H' D = some (.lst [])) ⟨Same.new nD, upd_same⟩ (fun i H' _ z => SqL.of (z.1 _ _ hp37)) ?_ ?_⟩
    · rintro i y H8' H8 hi ⟨s8, hD⟩ ⟨rfl, hy⟩
      unfold natV at hy
      rw [List.getElem?_map] at hy
      obtain ⟨j, hj, rfl⟩ := Option.map_eq_some_iff.mp hy
      have s08 := s07.trans s8
      have hjl := List.mem_of_getElem? hj
      obtain ⟨q, hq, rfl⟩ : ∃ q ∈ ps, q.1 = j := by
        rw [← him.1] at hjl
        obtain ⟨q, hq, e⟩ := List.mem_map.mp hjl
        exact ⟨q, hq, e⟩
      obtain ⟨r, hr', hda⟩ := him.2 q hq
      obtain ⟨z, hz⟩ : ∃ z, ws[q.1]? = some z := ⟨_, List.getElem?_eq_getElem (by have := (List.getElem?_eq_some_iff.mp hr').1; omega)⟩
      obtain ⟨r2, ar, dr, a', C', dx', ev, fs', hr2, rfl, at3, hC', hl'⟩ := toldAt q.1 z hz
      rw [hr'] at hr2
      cases hr2
      obtain ⟨o1, o2, o3, o6⟩ := hall r (List.mem_of_getElem? hr')
      obtain ⟨hrg3, ha3, pp3⟩ := at3 s08
      have edd : dead r.c = false := by
        have h2 := (List.mem_filter.mp hjl).2
        unfold dd at h2
        rw [hr'] at h2
        simpa using h2
      have hnd : (ps.map (·.1)).Nodup := by
        rw [him.1]
        exact (List.nodup_range).sublist List.filter_sublist
      refine ⟨rfl, ?_⟩
      walk_at "rd"
      refine ⟨_, rfl, t, _, 1, .ref d, rfl, rfl, SqT.of (s08 _ _ ht), rfl, _, rfl, d, .ref q.2, rfl, .inl ⟨_, .inl (q.1 : Int), .inl (s08 _ _ hd), rfl, (imV_some hnd hq).symm⟩, _, rfl, a, _, dx, _, _, rfl, s08 _ _ ha, T.lad.c_Ladder.cl, T.lad.nr_ld, lkL3, _, rfl, tr, ws, _, .ref ar, rfl, rfl, htrT s08, atI_nat hz, ar, _, dr, _, _, rfl, hrg3, T.lad.c_Rung.cl, T.lad.np_rg, lkR1, a', C', dx', fs', rfl, ha3, hC', hl', a', dx', fs', r.c, rfl, ha3, pp3, o2, by omega, fun H9 v s89 pv => ⟨v, q.2, r.c, rfl, pv, s89 _ _ (s08 _ _ hda), o1, o2, o3, edd, fun HA s9A => ?_⟩⟩
      exact ⟨true, rfl, iteF ⟨(s8.trans s89).trans s9A, s9A _ _ (s89 _ _ hD)⟩⟩
    · rintro H8 ⟨s8, hD⟩
      exact ⟨Nat.zero_le _, fun p9 np9 => ⟨D, p9, [], rfl, rfl, SqL.of (Same.new np9 _ _ hD), SqL.of upd_same, k _ ((s07.trans s8).trans (Same.new np9))⟩⟩
end

--%% ML
/-! ## k42: the wide condition, and the law -/
/-! ## told: data that can be laid -/
mutual
theorem told_lay : ∀ {c : Cond}, c.ok = true → c.told.canLay0 = true ∧ c.told.depth ≤ c.depth
  | .fixed b, _ => ⟨by show (PyData.strOk "fixed" && (true && true)) = true; decide +kernel, by simp [Cond.told, Cond.depth, PyData.depth, PyData.depthAll]⟩
  | .contact n, h => ⟨by
      have e : PyData.strOk n = true := by
        rw [Cond.ok] at h
        unfold isName isWord at h
        simp only [Bool.and_eq_true, List.all_eq_true] at h
        unfold PyData.strOk
        rw [Array.all_eq_true_iff_forall_mem]
        intro x hx
        have := h.1.1.1 x (by simpa using hx)
        unfold isLow at this
        have := of_decide_eq_true this
        exact decide_eq_true (by omega)
      show (PyData.strOk "contact" && (PyData.strOk n && true)) = true
      rw [e]
      decide +kernel, by simp [Cond.told, Cond.depth, PyData.depth, PyData.depthAll]⟩
  | .not c, h => by
    have ih := told_lay (c := c) h
    refine ⟨?_, ?_⟩
    · show (PyData.strOk "not" && (c.told.canLay0 && true)) = true
      rw [ih.1]
      decide +kernel
    · have := ih.2
      simp [Cond.told, Cond.depth, PyData.depth, PyData.depthAll]
      omega
  | .grp s cs, h => by
    rw [Cond.ok, Bool.and_eq_true] at h
    have ih := tolds_lay (cs := cs) h.2
    refine ⟨?_, ?_⟩
    · show (PyData.strOk (word s) && PyData.canLayAll0 (Cond.tolds cs)) = true
      rw [ih.1]
      cases s <;> decide +kernel
    · have := ih.2
      simp [Cond.told, Cond.depth, PyData.depth, PyData.depthAll]
      omega
theorem tolds_lay : ∀ {cs : List Cond}, Cond.oks cs = true → PyData.canLayAll0 (Cond.tolds cs) = true ∧ PyData.depthAll (Cond.tolds cs) ≤ Cond.depths cs
  | [], _ => ⟨rfl, Nat.le_refl _⟩
  | c :: cs, h => by
    rw [Cond.oks, Bool.and_eq_true] at h
    have h1 := told_lay h.1
    have h2 := tolds_lay (cs := cs) h.2
    refine ⟨?_, ?_⟩
    · show (c.told.canLay0 && PyData.canLayAll0 (Cond.tolds cs)) = true
      rw [h1.1, h2.1]
      rfl
    · have := h1.2
      have := h2.2
      simp [Cond.tolds, Cond.depths, PyData.depthAll]
      omega
end
theorem told_shaped {c : Cond} (h : c.ok = true) (hd : c.depth ≤ 60) : SeqAt.shaped c.told = true := shaped_of (told_lay h).1 (by have := (told_lay h).2; omega)
theorem told_eqv {c : Cond} (h : c.ok = true) : PyData.eqv c.told c.told = true := SeqAt.eqv_refl _ (told_lay h).1
theorem tolds_shaped {cs : List Cond} (h : Cond.oks cs = true) (hd : Cond.depths cs ≤ 60) : SeqAt.shaped (.list (Cond.tolds cs)) = true := shaped_of (tolds_lay h).1 (by have := (tolds_lay h).2; simp [PyData.depth]; omega)
theorem tolds_eqv {cs : List Cond} (h : Cond.oks cs = true) : PyData.eqv (.list (Cond.tolds cs)) (.list (Cond.tolds cs)) = true := SeqAt.eqv_refl _ (tolds_lay h).1

theorem tolds_at : ∀ (l : List Str), Cond.tolds (l.map Cond.contact) = l.map fun n => (Cond.contact n).told
  | [] => rfl
  | n :: l => by
    rw [List.map_cons, List.map_cons, Cond.tolds, tolds_at l]
theorem room65 {k : Nat} {A : Around} (r : Room k A) : A.units + 65 < cLine := by have := r.un; omega
theorem pe_ixD {X : Cx} {o e : Expr} {to : TE} {t : TA} {apos cpos : Pos} (K : PySem.W.Frag) (h : X.K = K) (hu : X.A.units + 65 < cLine) (ho : PE X o to) (ha : PA X [e] t)
    (hbase : attributeBase o "index" X.env (eval o X.env) = eval o X.env := by rfl)
    (hfew : ((backTo cpos (starEach [e] X.env)).all (fun x => !x.1) && (backToKw cpos (keywordEach [] X.env)).all (fun x => x.1.isSome) && decide (([e] : List Expr).length + ([] : List Keyword).length + (if ([] : List Keyword).isEmpty then 0 else 1) < 30)) = true := by rfl)
    (hline : (apos.endLine == cpos.line) = true := by rfl) (hs : starEach [e] X.env = (false, eval e X.env) :: starEach [] X.env := by rfl) (hplain : (backTo cpos (starEach [] X.env)).any (·.1) = false := by rfl) :
    PE X (.Call (.Attribute o "index" apos) [e] [] cpos) (tBM K "list" (rIndexD K) to t) := h ▸ pe_bm PySem.F.plainAttrs_list PySem.F.slot_list_index PySem.F.type_list_index (mt_indexD hu) ho ha hbase hfew hline hs hplain
abbrev s__law_wide : Stmt := top 68
theorem sc__law_wide : FnScope ["_law_script", "_law_cell", "_law_names_here", "_law_word_here", "_law_k", "_law_told", "_law_ones", "_law_name", "_law_one"] ["_law_script"] (defScope s__law_wide) := ⟨rfl, rfl, rfl, by decide +kernel, rfl, by decide +kernel, by decide +kernel⟩
abbrev s__law_with_wide : Stmt := top 69
theorem sc__law_with_wide : FnScope ["_law_script", "_law_ladder", "_law_rung"] ["_law_script", "_law_ladder"] (defScope s__law_with_wide) := ⟨rfl, rfl, rfl, by decide +kernel, rfl, by decide +kernel, by decide +kernel⟩
abbrev s_law : Stmt := top 72
theorem sc_law : FnScope ["_law_script", "_law_ladder", "_law_found", "_law_number"] ["_law_script"] (defScope s_law) := ⟨rfl, rfl, rfl, by decide +kernel, rfl, by decide +kernel, by decide +kernel⟩
structure Txt (K : PySem.W.Frag) (mg : Str → Option Value) (cs : Cs) (cc : Addr) (xc : Xc) (ch : Addr) : Prop where
  law : LawAt K mg s_law "_law_script"
  by_ : TLadBy K mg cs cc xc
  look : TLook K mg cs cc xc ch
  right : TRight K mg cs cc xc
  d_wide : DefAt K mg "_law_wide" s__law_wide ["_law_script"]
  d_with_wide : DefAt K mg "_law_with_wide" s__law_with_wide ["_law_script", "_law_ladder"]
  z_len : mg "len" = none
  z_range : mg "range" = none
  z_tuple : mg "tuple" = none
  z_list : mg "list" = none
section
variable {P : Program} {w : World} {K : PySem.W.Frag} {mg : Str → Option Value} {base : Heap} {cs : Cs} {cc : Addr} {xc : Xc} {ch : Addr}
def spWide (K : PySem.W.Frag) : Sp := fun vs H Q _ => ∃ (a : Addr) (script : List Int), vs = [.ref a] ∧ SqL K H a (script.map V.int) ∧ script.length ≤ 1000 ∧
  ∀ (H' : Hp) (v : V) (c : Cond), Same H H' → IsT H' v c → Fit41 c → (6 < c.contacts.length → (∃ f, c.holds f = true) ∧ ∃ f, c.holds f = false) → Q v H'
theorem ok_wide (T : Txt K mg cs cc xc ch) : FnAt P w K mg base CX0 "_law_wide" 4 ["_law_script"] (spWide K) := by
  have G__law_cell_at : FnAt P w K mg base CX0 "_law_cell_at" 1 _ (spCellAt K) := ok_cell_at T.by_.grown.cells
  have G__law_mixed : FnAt P w K mg base CX0 "_law_mixed" 1 _ spMixed := ok_mixed T.by_.grown.cells
  have G__law_names : FnAt P w K mg base CX0 "_law_names" 3 _ spNamesQ := ok_namesQ T.by_.grown.cells
  refine fnAt_ok T.d_wide sc__law_wide (fun vs H Q E h => ?_) (fun f cdv A outer st H vs Q E hr h => ?_)
  · obtain ⟨a, script, rfl, _⟩ := h; rfl
  · obtain ⟨a, script, rfl, hS, hlen, k⟩ := h
    have hu := hu_of hr
    refine ⟨_, (pss_cons (ps_set (i := 1) sc__law_wide.nd rfl (by first | exact Or.inl rfl | exact Or.inr rfl) (pe_op op_fdiv (pe_callF G__law_cell_at hr pass0 (pa_cons (pv 0) (pa_cons pe_int pa_nil))) pe_int))
        (pss_cons (ps_set (i := 2) sc__law_wide.nd rfl (by first | exact Or.inl rfl | exact Or.inr rfl) (pe_callF G__law_names hr pass0 (pa_cons (pe_callF G__law_cell_at hr pass0 (pa_cons (pv 0) (pa_cons pe_int pa_nil))) (pa_cons (pe_op op_add pe_int (pe_op op_mod (pe_op op_fdiv (pv 1) pe_int) pe_int)) pa_nil))))
        (pss_cons (ps_set (i := 3) sc__law_wide.nd rfl (by first | exact Or.inl rfl | exact Or.inr rfl) (pe_ix ix_list (pe_lst (pa_cons pe_str (pa_cons pe_str pa_nil))) (pe_op op_mod (pe_op op_fdiv (pv 1) pe_int) pe_int) (fun _ _ => rfl)))
        (C8.pss_cut (ps_if (pt_cmpR op_eq (pe_op op_mod (pv 1) pe_int) pe_int (nomark _)) (pss_one (ps_ret (pe_op op_catT (pe_tup (pa_cons (pv 3) pa_nil)) (pe_callTy call_tuple_of (by rfl) T.z_tuple (show PySem.bootBuiltins "tuple" = some (.type "tuple") by decide +kernel) (pa_cons (pe_lc (own := [("_law_k", 4)]) (g := gName 4) (tt := tYes) rfl sc__law_wide.nd (pi_range1 rfl T.z_range (pa_cons pe_int pa_nil)) (blkOk_by (own := [("_law_k", 4)]) (N := ["_law_script", "_law_cell", "_law_names_here", "_law_word_here", "_law_k", "_law_told", "_law_ones", "_law_name", "_law_one"]) (sc := defScope s__law_wide) (by decide +kernel)) (fun _ _ _ _ _ => pg_name (i := 4) sc__law_wide.nd rfl (Or.inl rfl)) (fun _ _ _ _ _ => pts_nil) (fun _ _ _ _ _ => (pe_tup (pa_cons pe_str (pa_cons (pe_ix (ix_listK K rfl) (pv 2) (pe_op op_mod (pv 4) (pe_callB (call_len_seqK K rfl) (by rfl) T.z_len PySem.boot_len (pa_cons (pv 2) pa_nil))) (fun _ _ => rfl)) pa_nil))))) pa_nil))))) pss_nil)
        (C8.pss_cut (ps_if (pt_cmpR op_eq (pe_op op_mod (pv 1) pe_int) pe_int (nomark _)) (pss_cons (ps_set (i := 5) sc__law_wide.nd rfl (by first | exact Or.inl rfl | exact Or.inr rfl) (pe_tup (pa_cons pe_str (pa_cons (pe_ix ix_list (pv 2) pe_int (fun _ _ => rfl)) pa_nil))))
          (pss_cons (ps_for PassesOwn.never rfl (pi_range1 rfl T.z_range (pa_cons pe_int pa_nil)) (pg_name (i := 4) sc__law_wide.nd rfl (by first | exact Or.inl rfl | exact Or.inr rfl)) (pss_one (ps_set (i := 5) sc__law_wide.nd rfl (by first | exact Or.inl rfl | exact Or.inr rfl) (pe_tup (pa_cons pe_str (pa_cons (pv 5) pa_nil))))))
          (pss_one (ps_ret (pv 5))))) pss_nil)
        (pss_cons (ps_set (i := 6) sc__law_wide.nd rfl (by first | exact Or.inl rfl | exact Or.inr rfl) (pe_lc (own := [("_law_name", 7)]) (g := gName 7) (tt := tYes) rfl sc__law_wide.nd (pi_list (pv 2)) (blkOk_by (own := [("_law_name", 7)]) (N := ["_law_script", "_law_cell", "_law_names_here", "_law_word_here", "_law_k", "_law_told", "_law_ones", "_law_name", "_law_one"]) (sc := defScope s__law_wide) (by decide +kernel)) (fun _ _ _ _ _ => pg_name (i := 7) sc__law_wide.nd rfl (Or.inl rfl)) (fun _ _ _ _ _ => pts_nil) (fun _ _ _ _ _ => (pe_tup (pa_cons pe_str (pa_cons (pv 7) pa_nil))))))
        (pss_one (ps_ret (pe_op op_catT (pe_tup (pa_cons (pv 3) pa_nil)) (pe_callTy call_tuple_of (by rfl) T.z_tuple (show PySem.bootBuiltins "tuple" = some (.type "tuple") by decide +kernel) (pa_cons (pe_lc (own := [("_law_one", 8)]) (g := gName 8) (tt := tYes) rfl sc__law_wide.nd (pi_list (pv 6)) (blkOk_by (own := [("_law_one", 8)]) (N := ["_law_script", "_law_cell", "_law_names_here", "_law_word_here", "_law_k", "_law_told", "_law_ones", "_law_name", "_law_one"]) (sc := defScope s__law_wide) (by decide +kernel)) (fun _ _ _ _ _ => pg_name (i := 8) sc__law_wide.nd rfl (Or.inl rfl)) (fun _ _ _ _ _ => pts_nil) (fun _ _ _ _ _ => (pe_ix (ix_listK K rfl) (pe_lst (pa_cons (pv 8) (pa_cons (pe_tup (pa_cons pe_str (pa_cons (pv 8) pa_nil))) pa_nil))) (pe_op op_mod (pe_callF G__law_mixed hr pass0 (pa_cons (pv 1) (pa_cons (pe_op op_add pe_int (pe_ixD K rfl (by exact room65 hr) (pv 6) (pa_cons (pv 8) pa_nil))) pa_nil))) pe_int) (fun _ _ => rfl)))) pa_nil))))))))))), ?_⟩
    walk_at "rd"
    have nn : ∀ (i : Int) (n : Int), 0 < n → 0 ≤ i % n ∧ i % n < n := fun i n h => ⟨Int.emod_nonneg _ (by omega), Int.emod_lt_of_pos _ h⟩
    refine ⟨a, script, 18, rfl, hS, by omega, by decide, _, rfl, a, script, 19, rfl, hS, by omega, by decide, ?_⟩
    generalize cellC script 18 / 8 = cell
    obtain ⟨m, hm, hm11, hm26⟩ : ∃ m : Nat, 11 + cell / 4 % 16 = (m : Int) ∧ 11 ≤ m ∧ m ≤ 26 := by
      have := nn (cell / 4) 16 (by decide)
      exact ⟨(11 + cell / 4 % 16).toNat, by omega, by omega, by omega⟩
    rw [hm]
    refine ⟨_, m, rfl, hm26, fun H1 q l s1 nq hn _ => ⟨line_ge (by simp), fun pw npw => ?_⟩⟩
    have hll := hn.len
    have t1 := Same.new (o := .lst [V.str "and", V.str "or"]) npw
    obtain ⟨s, hs⟩ : ∃ s : Bool, atI [V.str "and", V.str "or"] (cell / 64 % 2) = some (.str (word s)) := by
      have := nn (cell / 64) 2 (by decide)
      rcases (show cell / 64 % 2 = 0 ∨ cell / 64 % 2 = 1 by omega) with e | e
      · exact ⟨true, by rw [e]; rfl⟩
      · exact ⟨false, by rw [e]; rfl⟩
    refine ⟨pw, _, _, .str (word s), rfl, rfl, SqL.of upd_same, hs, ?_⟩
    have s2 := s1.trans t1
    have hn2 := hn.keep t1
    generalize upd H1 pw (.lst [V.str "and", V.str "or"]) = H2 at s2 hn2 ⊢
    have fin : ∀ {H3 : Hp} {p1 p2 : Addr} {ws : List V} {cs : List Cond}, Same H2 H3 → H3 p1 = some (.tup [.str (word s)]) → H3 p2 = some (.tup ws) → IsTs H3 ws cs → 1 ≤ cs.length → cs.length ≤ 1000 → Fit41 (.grp s cs) → ((∃ f, (Cond.grp s cs).holds f = true) ∧ ∃ f, (Cond.grp s cs).holds f = false) → rCatT K (.ref p1) (.ref p2) H3 Q := by
      intro H3 p1 p2 ws cs s3 h1 h2 ps hl1 hl2 hf hx
      have hl := ps.length
      refine ⟨p1, p2, [.str (word s)], ws, rfl, rfl, SqT.of h1, SqT.of h2, by simp, line_ge (by simp; omega), fun e => by rw [e] at hl; simp at hl; omega, fun _ p3 np3 => ?_⟩
      have t3 := Same.new (o := .tup ([.str (word s)] ++ ws)) np3
      exact k _ _ (.grp s cs) ((s2.trans s3).trans t3) (.grp upd_same (ps.mono (T := fun _ => False) (Same.imm t3))) hf fun _ => hx
    refine ⟨fun σ' H' => σ' = [some (.ref a), some (.int cell), some (.ref q), some (.str (word s)), none, none, none, none, none] ∧ Same H2 H', ?_, ?_⟩
    · walk_at "rd"
      refine ite2 (fun _ => ⟨line_ge (by simp), fun p1 np1 => ?_⟩) (fun _ => Same.refl _)
      have u1 := Same.new (o := .tup [V.str (word s)]) np1
      have hp1 := upd_same (H := H2) (a := p1) (o := .tup [V.str (word s)])
      generalize upd H2 p1 (.tup [V.str (word s)]) = H3 at u1 hp1 ⊢
      refine ⟨_, rfl, by decide, by decide, fun D nD => lc_range (lo := 0) (n := 59) (fun i H' => Same H3 H' ∧ ∃ vs, H' D = some (.lst vs) ∧ IsTs H' vs ((cs59 l).take i)) ⟨Same.new nD, [], upd_same, by simpa using .nil⟩ ?_ ?_⟩
      · rintro i H4 hi ⟨s4, vs, hD, ps⟩
        have hq4 := (u1.trans s4) _ _ hn2.at_
        refine ⟨rfl, ?_⟩
        walk_at "rd"
        unfold tYes
        have hv := ps.length
        rw [List.length_take] at hv
        have hci : (cs59 l)[i]? = some (.contact (nmAt l (i % l.length))) := by unfold cs59; rw [List.getElem?_map, List.getElem?_range hi]; rfl
        refine iteT ⟨_, .inl (SqL.of hq4), by rw [List.length_map]; omega, ?_⟩
        rw [List.length_map, Int.zero_add]
        refine ⟨q, _, _, .str (nmAt l (i % l.length)), rfl, rfl, SqL.of hq4, (by
          rw [show (i : Int) % ((l.length : Nat) : Int) = ((i % l.length : Nat) : Int) by omega]
          exact atI_nat (by rw [List.getElem?_map, nmAt_at (Nat.mod_lt _ (by omega))]; rfl)), line_ge (by simp), fun pt npt => ?_⟩
        have t := Same.new (o := .tup [V.str "contact", .str (nmAt l (i % l.length))]) npt
        refine ⟨vs, t _ _ hD, by rw [sizeLine_eq]; omega, Same.mut (s4.trans t) nD, vs ++ [.ref pt], upd_same, ?_⟩
        have im : Imm (fun _ => False) (upd H4 pt (.tup [V.str "contact", .str (nmAt l (i % l.length))])) (upd (upd H4 pt (.tup [V.str "contact", .str (nmAt l (i % l.length))])) D (.lst (vs ++ [.ref pt]))) := Imm.mut (t _ _ hD) id
        rw [List.take_succ, hci]
        exact ((ps.mono (T := fun _ => False) (Same.imm t)).mono im).snoc ((IsT.contact upd_same).mono im)
      · rintro H4 ⟨s4, vs, hD, ps⟩
        rw [List.take_of_length_le (by simp [cs59])] at ps
        have f59 := fit59 (s := s) (l := l) (by omega) hn.ok
        refine ⟨D, rfl, vs, .inl ⟨SqL.of hD, fun p2 np2 => ?_⟩⟩
        have t := Same.new (o := .tup vs) np2
        exact fin ((u1.trans s4).trans t) ((s4.trans t) _ _ hp1) upd_same (ps.mono (T := fun _ => False) (Same.imm t)) (by simp [cs59]) (by simp [cs59]) f59.1 f59.2
    rintro σ' H3 ⟨rfl, s3⟩
    refine ⟨fun σ' H' => σ' = [some (.ref a), some (.int cell), some (.ref q), some (.str (word s)), none, none, none, none, none] ∧ Same H3 H', ?_, ?_⟩
    · walk_at "rd"
      refine ite2 (fun _ => ?_) (fun _ => Same.refl _)
      have hq3 := s3 _ _ hn2.at_
      have hn0 := nmAt_mem (l := l) (i := 0) (by omega)
      refine ⟨q, _, 0, .str (nmAt l 0), rfl, rfl, SqL.of hq3, atI_int (by decide) (by rw [show (0 : Int).toNat = 0 from rfl, List.getElem?_map, nmAt_at (by omega)]; rfl), line_ge (by simp), fun p0 np0 => ?_⟩
      have u0 := Same.new (o := .tup [V.str "contact", .str (nmAt l 0)]) np0
      refine ⟨_, rfl, by decide, by decide, for_range (lo := 0) (n := 19) (fun i σ H' => ∃ (v4 : Option V) (v : V), σ = [some (.ref a), some (.int cell), some (.ref q), some (.str (word s)), v4, some v, none, none, none] ∧ Same H3 H' ∧ IsT H' v (notN (.contact (nmAt l 0)) i)) ⟨none, .ref p0, rfl, u0, .contact upd_same⟩ ?_ ?_⟩
      · rintro i σ H4 hi ⟨v4, v, rfl, s4, pv⟩
        walk_at "rd"
        refine ⟨line_ge (by simp), fun pn npn => ?_⟩
        have t := Same.new (o := .tup [V.str "not", v]) npn
        exact ⟨_, _, ⟨rfl, rfl⟩, s4.trans t, .not upd_same (pv.mono (T := fun _ => False) (Same.imm t))⟩
      · rintro σ H4 ⟨v4, v, rfl, s4, pv⟩
        walk_at "rd"
        obtain ⟨f1, f2, f3, f4⟩ := notN_facts (nmAt l 0) (hn.ok _ hn0) 19
        have fc : (notN (.contact (nmAt l 0)) 19).contacts.length = 1 := by rw [f4]; rfl
        exact k H4 v _ ((s2.trans s3).trans s4) pv (fit_of (m := 1) f1 (by omega) (by omega) (by omega) (by decide) (by rw [f2]; decide) (by decide)) (fun h => absurd h (by omega))
    rintro σ' H4 ⟨rfl, s4⟩
    walk_at "rd"
    have s24 := s3.trans s4
    have hq4 := s24 _ _ hn2.at_
    refine ⟨_, rfl, q, rfl, ⟨_, SqL.of hq4⟩, fun D nD => lc_it walk_list (fun i H' => Same H4 H' ∧ ∃ vs, H' D = some (.lst vs) ∧ IsTs H' vs ((l.map Cond.contact).take i)) ⟨Same.new nD, [], upd_same, by simpa using .nil⟩ (fun i H' _ z => SqL.of (z.1 _ _ hq4)) ?_ ?_⟩
    · rintro i y H5' H5 hi ⟨s5, vs, hD, ps⟩ ⟨rfl, hy⟩
      rw [List.getElem?_map] at hy
      obtain ⟨n, hni, rfl⟩ := Option.map_eq_some_iff.mp hy
      refine ⟨rfl, ?_⟩
      walk_at "rd"
      unfold tYes
      have hv := ps.length
      rw [List.length_take] at hv
      have hvi : vs.length ≤ i := by rw [hv]; exact Nat.min_le_left _ _
      have hil := (List.getElem?_eq_some_iff.mp hni).1
      refine iteT ⟨line_ge (by simp), fun pt npt => ?_⟩
      have t := Same.new (o := .tup [V.str "contact", .str n]) npt
      refine ⟨vs, t _ _ hD, by rw [sizeLine_eq]; omega, Same.mut (s5.trans t) nD, vs ++ [.ref pt], upd_same, ?_⟩
      have im : Imm (fun _ => False) (upd H5 pt (.tup [V.str "contact", .str n])) (upd (upd H5 pt (.tup [V.str "contact", .str n])) D (.lst (vs ++ [.ref pt]))) := Imm.mut (t _ _ hD) id
      rw [List.take_succ, List.getElem?_map, hni]
      exact ((ps.mono (T := fun _ => False) (Same.imm t)).mono im).snoc ((IsT.contact upd_same).mono im)
    rintro H5 ⟨s5, vs, hD, ps⟩
    rw [List.take_of_length_le (by simp)] at ps
    have hvl := ps.length
    rw [List.length_map] at hvl
    refine ⟨line_ge (by simp), fun p1 np1 => ?_⟩
    have u1 := Same.new (o := .tup [V.str (word s)]) np1
    have hp1 := upd_same (H := H5) (a := p1) (o := .tup [V.str (word s)])
    have hD6 := u1 _ _ hD
    have ps6 := ps.mono (T := fun _ => False) (Same.imm u1)
    have s26 := (s24.trans s5).trans u1
    generalize upd H5 p1 (.tup [V.str (word s)]) = H6 at s26 hp1 hD6 ps6 ⊢
    let sg : Nat → Bool := fun i => decide (mixed cell (30 + (i : Int)) % 2 = 0)
    refine ⟨_, rfl, D, rfl, ⟨_, SqL.of hD6⟩, fun E2 nE => lc_it walk_list (fun i H' => Same H6 H' ∧ ∃ us, H' E2 = some (.lst us) ∧ IsTs H' us ((lits l sg).take i)) ⟨Same.new nE, [], upd_same, by simpa using .nil⟩ (fun i H' _ z => SqL.of (z.1 _ _ hD6)) ?_ ?_⟩
    · rintro i y H7' H7 hi ⟨s7, us, hE7, qs⟩ ⟨rfl, hy⟩
      have hil : i < l.length := by omega
      obtain ⟨c', hc', py⟩ := (ps6.mono (T := fun _ => False) (Same.imm s7)).at hy
      rw [List.getElem?_map, nmAt_at hil] at hc'
      obtain rfl : Cond.contact (nmAt l i) = c' := Option.some.inj hc'
      refine ⟨rfl, ?_⟩
      walk_at "rd"
      unfold tYes
      refine iteT ⟨line_ge (by simp), fun pn npn => ⟨line_ge (by simp), fun pl npl => ?_⟩⟩
      have t1 := Same.new (o := .tup [V.str "not", y]) npn
      have t2 := Same.new (o := .lst [y, V.ref pn]) npl
      have hpn := t2 _ _ (upd_same (H := H7) (a := pn) (o := .tup [V.str "not", y]))
      have hpl := upd_same (H := upd H7 pn (.tup [V.str "not", y])) (a := pl) (o := .lst [y, V.ref pn])
      have s79 := t1.trans t2
      generalize upd (upd H7 pn (.tup [V.str "not", y])) pl (.lst [y, V.ref pn]) = H9 at hpn hpl s79 ⊢
      have s69 := s7.trans s79
      have py9 := py.mono (T := fun _ => False) (Same.imm s79)
      have ps9 := ps6.mono (T := fun _ => False) (Same.imm s69)
      have okL : Cond.oks (l.map Cond.contact) = true := oks_of fun c hc => by
        obtain ⟨n, hn', rfl⟩ := List.mem_map.mp hc
        rw [Cond.ok]
        exact hn.ok n hn'
      have hni := nmAt_mem hil
      have dpL : Cond.depths (l.map Cond.contact) ≤ 1 := (sizes_all (b := 1) (d := 1) (cs := l.map Cond.contact) (fun c hc => by
        obtain ⟨n, hn', rfl⟩ := List.mem_map.mp hc
        exact ⟨by rw [Cond.ok]; exact hn.ok n hn', by rw [Cond.size]; decide, by rw [Cond.depth]; decide⟩)).2.1
      refine ⟨_, rfl, .inl ⟨rfl, _, SqL.of (s69 _ _ hD6)⟩, _, rfl, D, y, (Cond.contact (nmAt l i)).told, Cond.tolds (l.map Cond.contact), i, (Cond.contact (nmAt l i)).told, rfl, rfl, .lst (SqL.of (s69 _ _ hD6)) ps9.dp, py9.dp, tolds_shaped okL (by omega), told_shaped (by rw [Cond.ok]; exact hn.ok _ hni) (by rw [Cond.depth]; decide), by rw [tolds_at, List.getElem?_map, nmAt_at hil]; rfl, told_eqv (by rw [Cond.ok]; exact hn.ok _ hni), fun m z' hm hz => ?_, ?_⟩
      · rw [tolds_at, List.getElem?_map, nmAt_at (by omega)] at hz
        cases hz
        have hne : nmAt l m ≠ nmAt l i := fun e => by
          have e1 := ix_nd hn.nd (i := m) (by omega)
          have e2 := ix_nd hn.nd hil
          rw [e] at e1
          omega
        show (("contact" : Str) == ("contact" : Str) && ((nmAt l m == nmAt l i) && true)) = false
        rw [beq_eq_false_iff_ne.mpr hne]
        simp
      refine ⟨_, rfl, cell, _, rfl, _, rfl, ?_⟩
      have hv := qs.length
      rw [List.length_take] at hv
      have hvi : us.length ≤ i := by rw [hv]; exact Nat.min_le_left _ _
      have hci : (lits l sg)[i]? = some (litC (nmAt l i) (sg i)) := by unfold lits; rw [List.getElem?_map, List.getElem?_range hil]; rfl
      have im : ∀ {z : V}, Imm (fun _ => False) H9 (upd H9 E2 (.lst (us ++ [z]))) := Imm.mut (s79 _ _ hE7) id
      have qs9 := qs.mono (T := fun _ => False) (Same.imm s79)
      have hp2 := nn (mixed cell (30 + (i : Int))) 2 (by decide)
      by_cases h0 : mixed cell (30 + (i : Int)) % 2 = 0
      · refine ⟨pl, _, _, y, rfl, rfl, SqL.of hpl, by rw [h0]; rfl, us, s79 _ _ hE7, by rw [sizeLine_eq]; omega, Same.mut s69 nE, us ++ [y], upd_same, ?_⟩
        rw [List.take_succ, hci, show sg i = true from decide_eq_true h0]
        exact (qs9.mono im).snoc (py9.mono im)
      · refine ⟨pl, _, _, .ref pn, rfl, rfl, SqL.of hpl, by rw [show mixed cell (30 + (i : Int)) % 2 = 1 by omega]; rfl, us, s79 _ _ hE7, by rw [sizeLine_eq]; omega, Same.mut s69 nE, us ++ [.ref pn], upd_same, ?_⟩
        rw [List.take_succ, hci, show sg i = false from decide_eq_false h0]
        exact (qs9.mono im).snoc ((IsT.not hpn py9).mono im)
    rintro H7 ⟨s7, us, hE7, qs⟩
    rw [List.take_of_length_le (by simp [lits]; omega)] at qs
    have fL := fitLits (s := s) (l := l) sg (by omega) (by omega) hn.ok hn.nd
    refine ⟨E2, rfl, us, .inl ⟨SqL.of hE7, fun p2 np2 => ?_⟩⟩
    have t := Same.new (o := .tup us) np2
    exact fin ((s26.trans s7).trans t) ((s7.trans t) _ _ hp1) upd_same (qs.mono (T := fun _ => False) (Same.imm t)) (by simp [lits]; omega) (by simp [lits]; omega) fL.1 fL.2
theorem dead_f {c : Cond} (h : c.contacts.length ≤ 60) (hx : ∃ f, c.holds f = false) : dead c = false := by
  cases hd : dead c with
  | false => rfl
  | true =>
    obtain ⟨f, hf⟩ := hx
    have := all_images (dead_no h hd) f
    rw [this] at hf
    cases hf
def LadF (l : Lad) : Prop := l.rs.length ≤ 30 ∧ ∀ r ∈ l.rs, Fit41 r.c ∧ (6 < r.c.contacts.length → dead r.c = false)
theorem wide_not {n : Str} (h : EndQ n) : n ≠ ("wide" : Str) := fun e => by
  rw [e] at h
  revert h
  unfold EndQ
  decide +kernel
theorem bears_none {n : Str} : ∀ {rs : List Rg}, (∀ r ∈ rs, r.e.n ≠ n) → bears n rs = [] := fun {rs} h => by
  unfold bears
  rw [List.filter_eq_nil_iff.mpr fun r hr => by rw [decide_eq_false (h r hr)]; simp]
  rfl
theorem fair_wide {l : Lad} {w : Rg} (hf : l.fair = true) (hw : w.e.n = ("wide" : Str)) (hk : w.e.k = .coil) (h29 : l.rs.length ≤ 29) (hq : ∀ n ∈ l.ins ++ l.outs, isName n = true ∧ EndQ n) (hr : ∀ r ∈ l.rs, EndQ r.e.n) (h4 : (writ l.rs).length ≤ 4) : (⟨l.ins, l.outs, l.rs ++ [w]⟩ : Lad).fair = true := by
  obtain ⟨f1, f2, f3, f4, f5, f6, f7, f8, f9⟩ := (fair_iff l).mp hf
  have e : writ (l.rs ++ [w]) = addW (writ l.rs) ("wide" : Str) := by rw [writ_snoc, hw]
  refine (fair_iff _).mpr ⟨f1, f2, f3, f4, ⟨by simp, by simp; omega⟩, fun n hn hx => ?_, fun n hn => ?_, ?_, ?_⟩
  · have hx : n ∈ writ (l.rs ++ [w]) := hx
    rw [e, addW_mem] at hx
    rcases hx with hx | hx
    · exact f6 n hn hx
    · exact wide_not (hq n (List.mem_append_left _ hn)).2 hx
  · show n ∈ writ (l.rs ++ [w])
    rw [e, addW_mem]
    exact .inl (f7 n hn)
  · show crowd (l.rs ++ [w]) = false
    unfold crowd at f8 ⊢
    rw [← Bool.not_eq_true, List.any_eq_true] at f8 ⊢
    rintro ⟨r, hm, hb⟩
    have eb : ∀ n, n ≠ ("wide" : Str) → bears n (l.rs ++ [w]) = bears n l.rs := fun n hn => by
      rw [bears_snoc, if_neg (by rw [hw, decide_eq_false (fun z => hn z.symm)]; simp)]
    rcases List.mem_append.mp hm with hm | hm
    · rw [eb r.e.n (wide_not (hr r hm))] at hb
      exact f8 ⟨r, hm, hb⟩
    · rw [List.mem_singleton.mp hm, hw, bears_snoc, bears_none (fun r hr' => wide_not (hr r hr'))] at hb
      split at hb <;> simp at hb
  · show (writ (l.rs ++ [w])).length ≤ 20
    rw [e]
    have := addW_len (writ l.rs) ("wide" : Str)
    omega
def spWithWide (K : PySem.W.Frag) (cs : Cs) : Sp := fun vs H Q _ => ∃ (a : Addr) (script : List Int) (v : V) (l : Lad), vs = [.ref a, v] ∧ SqL K H a (script.map V.int) ∧ script.length ≤ 1000 ∧ IsL K cs H v l ∧ l.fair = true ∧ (∀ r ∈ l.rs, r.ok ∧ r.c.size ≤ 14 ∧ r.c.contacts.length ≤ 6) ∧ (∀ n ∈ l.ins ++ l.outs, isName n = true ∧ EndQ n) ∧ (∀ r ∈ l.rs, EndQ r.e.n) ∧ (writ l.rs).length ≤ 4 ∧
  ∀ (H' : Hp) (v' : V) (l' : Lad), Same H H' → IsL K cs H' v' l' → LadF l' → Q v' H'
theorem ok_withWide (T : Txt K mg cs cc xc ch) : FnAt P w K mg base CX0 "_law_with_wide" 28 ["_law_script", "_law_ladder"] (spWithWide K cs) := by
  have G__law_cell_at : FnAt P w K mg base CX0 "_law_cell_at" 1 _ (spCellAt K) := ok_cell_at T.by_.grown.cells
  have G__law_wide := ok_wide (P := P) (w := w) (base := base) T
  have G_part_of : FnAt P w K mg base CX0 "part_of" 26 _ (spPartOf cs.cl) := ok_part_of T.by_.pof
  have TE := T.by_.lad.enk.ends
  have M_Coil := (init_en (P := P) (w := w) (base := base) TE T.by_.lad.exs .coil TE.c_Coil TE.m_init_coil).calm
  have M_Ladder := (ok_init_ld (P := P) (w := w) (base := base) T.by_.lad).calm
  have M_Rung := ok_init_rg (P := P) (w := w) (base := base) T.by_.lad
  refine fnAt_ok T.d_with_wide sc__law_with_wide (fun vs H Q E h => ?_) (fun f cdv A outer st H vs Q E hr h => ?_)
  · obtain ⟨a, script, v, l, rfl, _⟩ := h; rfl
  · obtain ⟨a, script, v, l, rfl, hS, hlen, hL, hfair, hrs, hq, hrq, h4, k⟩ := h
    have hu := hu_of hr
    obtain ⟨x, dx, ti, tt, tr, ws, rfl, hx, hi, ho, htr, htw⟩ := id hL
    have hwl := htw.length
    have htrT : ∀ {H'}, Same H H' → SqT K H' tr ws := fun s => htr.elim (fun e => SqT.of (s _ _ e)) fun h => h _
    obtain ⟨f1, f2, f3, f4, f5, f6, f7, f8, f9⟩ := (fair_iff l).mp hfair
    have fold : ∀ r ∈ l.rs, Fit41 r.c ∧ (6 < r.c.contacts.length → dead r.c = false) := fun r hr' => by
      obtain ⟨h1, h2, h3⟩ := hrs r hr'
      refine ⟨fit_of (m := 6) h1.1 h1.2.2.1 h1.2.1 h3 (by decide) ?_ (by decide), fun h => absurd h (by omega)⟩
      have : r.c.size * 2 ^ 6 ≤ 14 * 2 ^ 6 := Nat.mul_le_mul_right _ h2
      omega
    refine ⟨_, (C8.pss_cut (ps_if (PW.pt (pw_or (pt_cmpR op_ne (pe_op op_mod (pe_callF G__law_cell_at hr pass0 (pa_cons (pv 0) (pa_cons pe_int pa_nil))) pe_int) pe_int (nomark _)) (pw_or1 (pt_cmpR op_gt (pe_callB call_len_seq (by rfl) T.z_len PySem.boot_len (pa_cons (pe_fld (pv 1) rfl) pa_nil)) pe_int (nomark _))))) (pss_one (ps_ret (pv 1))) pss_nil)
        (pss_cons (ps_set (i := 2) sc__law_with_wide.nd rfl (by first | exact Or.inl rfl | exact Or.inr rfl) (pe_makeF M_Rung hr pass0 (pa_cons (pe_callF G_part_of hr pass0 (pa_cons (pe_callF G__law_wide hr pass0 (pa_cons (pv 0) pa_nil)) pa_nil)) (pa_cons (pe_makeF M_Coil hr pass0 (pa_cons pe_str pa_nil)) pa_nil))))
        (pss_one (ps_ret (pe_makeF M_Ladder hr pass0 (pa_cons (pe_fld (pv 1) rfl) (pa_cons (pe_fld (pv 1) rfl) (pa_cons (pe_op op_cat (pe_callTy call_list_of (by rfl) T.z_list (show PySem.bootBuiltins "list" = some (.type "list") by decide +kernel) (pa_cons (pe_fld (pv 1) rfl) pa_nil)) (pe_lst (pa_cons (pv 2) pa_nil))) pa_nil)))))))), ?_⟩
    refine ⟨fun σ' H' => σ' = [some (.ref a), some (.ref x), none] ∧ H' = H ∧ ws.length ≤ 29, ?_, ?_⟩
    · walk_at "rd"
      refine ⟨a, script, 18, rfl, hS, by omega, by decide, _, rfl, ite2 (fun _ => k H _ l (Same.refl _) hL ⟨f5.2, fold⟩) (fun _ => ⟨_, rfl, x, _, dx, _, _, rfl, hx, T.by_.lad.c_Ladder.cl, T.by_.lad.nr_ld, lkL3, tr, rfl, ws, .inr (htrT (Same.refl _)), ?_⟩)⟩
      by_cases h29 : 29 < ws.length
      · rw [decide_eq_true (show (29 : Int) < (ws.length : Nat) by omega)]
        exact iteT (k H _ l (Same.refl _) hL ⟨f5.2, fold⟩)
      · rw [decide_eq_false (show ¬ (29 : Int) < (ws.length : Nat) by omega)]
        exact iteF ⟨rfl, by omega⟩
    rintro σ' H' ⟨rfl, rfl, h29⟩
    walk_at "rd"
    have tpS : ∀ {H2 : Hp} {t : Addr} {xs : List V}, Same H' H2 → Tp K H' t xs → Tp K H2 t xs := fun s h => h.elim (fun e => .inl (s _ _ e)) .inr
    refine ⟨_, rfl, a, script, rfl, hS, by omega, fun H1 v c s1 pv hfit hxx => ⟨v, c, rfl, pv, hfit.ok, hfit.sz, hfit.dp, fun H2 y s12 py => fun x1 d1 nx1 nd1 _ => mk_enC (k := .coil) (n := ("wide" : Str)) (m := 1) nx1 nd1 rfl (by decide +kernel) fun H3 s23 pe => ⟨rfl, fun xr dr nxr ndr _ => mk_rgC nxr ndr fun H4 s34 h4' => ⟨rfl, ?_⟩⟩⟩⟩
    have s04 := ((s1.trans s12).trans s23).trans s34
    have pR : IsR cs H4 (.ref xr) ⟨c, ⟨.coil, ("wide" : Str), 1⟩⟩ := ⟨xr, dr, .ref y, .ref x1, rfl, h4', py.mono (Same.imm (s23.trans s34)), pe.mono (Same.imm s34)⟩
    have hx4 := s04 _ _ hx
    refine ⟨_, rfl, x, _, dx, _, _, rfl, hx4, T.by_.lad.c_Ladder.cl, T.by_.lad.ni_ld, lkL1, _, rfl, x, _, dx, _, _, rfl, hx4, T.by_.lad.c_Ladder.cl, T.by_.lad.no_ld, lkL2, _, rfl, x, _, dx, _, _, rfl, hx4, T.by_.lad.c_Ladder.cl, T.by_.lad.nr_ld, lkL3, tr, rfl, ws, .inr (htrT s04), fun pl npl => ⟨_, rfl, line_ge (by simp), fun pr npr => ?_⟩⟩
    have u1 := Same.new (o := .lst ws) npl
    have u2 := Same.new (o := .lst [.ref xr]) npr
    refine ⟨pl, pr, _, _, rfl, rfl, u2 _ _ upd_same, upd_same, line_ge (by simp; omega), fun pc npc => ?_⟩
    have u3 := Same.new (o := .lst (ws ++ [.ref xr])) npc
    have u4 := (u1.trans u2).trans u3
    have s05 := s04.trans u4
    have two : Two (IsR cs (upd (upd (upd H4 pl (.lst ws)) pr (.lst [.ref xr])) pc (.lst (ws ++ [.ref xr])))) (ws ++ [.ref xr]) (l.rs ++ [⟨c, ⟨.coil, ("wide" : Str), 1⟩⟩]) :=
      Two.app (htw.mono fun _ _ p => IsR.mono (Same.imm s05) p) (.one (pR.mono (Same.imm u4)))
    have fw := fair_wide (w := ⟨c, ⟨.coil, ("wide" : Str), 1⟩⟩) hfair rfl rfl (by omega) hq hrq h4
    refine fun xl dl nxl ndl _ => mk_ldC (l := ⟨l.ins, l.outs, l.rs ++ [⟨c, ⟨.coil, ("wide" : Str), 1⟩⟩]⟩) nxl ndl (.inr (tpS s05 hi)) (.inr (tpS s05 ho)) (.inl upd_same) two fw (List.all_eq_true.mpr fun z hz => (hq z hz).1) fun H6 s6 pl' => ⟨rfl, ?_⟩
    refine k H6 _ _ (s05.trans s6) pl' ⟨by simp; omega, fun r hr' => ?_⟩
    rcases List.mem_append.mp hr' with hr' | hr'
    · exact fold r hr'
    · rw [List.mem_singleton.mp hr']
      exact ⟨hfit, fun h6 => dead_f hfit.nm (hxx h6).2⟩
theorem ok_law (T0 : Txt K mg cs cc xc ch) {base : Heap} {f : Addr} {fd : FuncData} (F : Fun K "law" "law" s_law f fd) : FnOk P w K mg base CX0 90 f fd ["_law_script"] (spLaw K) := by
  have G__law_ladder_by := ok_ladBy (P := P) (w := w) (base := base) T0.by_
  have G__law_with_wide := ok_withWide (P := P) (w := w) (base := base) T0
  have G_always := ok_look (P := P) (w := w) (base := base) T0.look
  have G__law_right := ok_right (P := P) (w := w) (base := base) T0.right
  have T := T0
  refine F.ok sc_law (fun vs H Q E h => ?_) (fun cdv A outer st H vs Q E hr h => ?_)
  · obtain ⟨a, script, rfl, _⟩ := h; rfl
  · obtain ⟨a, script, rfl, hS, hlen, k⟩ := h
    have hu := hu_of hr
    refine ⟨_, (pss_cons (ps_set (i := 1) sc_law.nd rfl (by first | exact Or.inl rfl | exact Or.inr rfl) (pe_callF G__law_with_wide hr pass0 (pa_cons (pv 0) (pa_cons (pe_callF G__law_ladder_by hr pass0 (pa_cons (pv 0) (pa_cons pe_int pa_nil))) pa_nil))))
        (pss_cons (ps_set (i := 2) sc_law.nd rfl (by first | exact Or.inl rfl | exact Or.inr rfl) (pe_callF G_always hr pass0 (pa_cons (pv 1) pa_nil)))
        (pss_cons (ps_if (pt_not (pt_val (pe_callF G__law_right hr pass0 (pa_cons (pv 2) (pa_cons (pv 1) pa_nil))))) (pss_one (ps_ret pe_bl)) pss_nil)
        (pss_cons (ps_lock (ps_for PassesOwn.never rfl (pi_keys (pe_ix ix_tup (pv 2) pe_int (fun _ _ => rfl))) (pg_name (i := 3) sc_law.nd rfl (by first | exact Or.inl rfl | exact Or.inr rfl)) (pss_one (ps_expr (pe_dclear (pe_dget (by exact hu) (pe_ix ix_tup (pv 2) pe_int (fun _ _ => rfl)) (pv 3) (fun _ _ => rfl)))))))
        (pss_cons (ps_expr (pe_dclear (pe_ix ix_tup (pv 2) pe_int (fun _ _ => rfl))))
        (pss_one (ps_ret (pe_callF G__law_right hr pass0 (pa_cons (pe_callF G_always hr pass0 (pa_cons (pv 1) pa_nil)) (pa_cons (pv 1) pa_nil)))))))))), ?_⟩
    walk_at "rd"
    refine ⟨a, script, 0, rfl, hS, by omega, fun H1 x1 l1 s1 _ hL1 hf1 hr1 hq1 hrq1 hw4 => ⟨a, script, _, l1, rfl, Same.seq s1 hS, by omega, hL1, hf1, hr1, hq1, hrq1, hw4, fun H2 v l s2 hL hF => ⟨v, l, rfl, hL, hF.1, fun r hr => (hF.2 r hr).1, fun H3 t p d ps s3 ht hp hd him hqd => ?_⟩⟩⟩
    have hR : ∀ r ∈ l.rs, r.c.ok = true ∧ r.c.depth ≤ 20 ∧ r.c.size ≤ 60 ∧ (6 < r.c.contacts.length → dead r.c = false) := fun r hr => ⟨(hF.2 r hr).1.ok, (hF.2 r hr).1.dp, (hF.2 r hr).1.sz, (hF.2 r hr).2⟩
    have hL3 := hL.mono (Same.imm s3)
    refine ⟨v, l, t, p, d, ps, rfl, hL3, hF.1, hR, ht, hp, hd, him, fun H4 s4 => ⟨true, rfl, iteF ?_⟩⟩
    have hL4 := hL3.mono (Same.imm s4)
    have hd4 := s4 _ _ hd
    have ht4 := s4 _ _ ht
    have him4 := him.keep s4
    refine ⟨d, _, hd4, True.intro, fun od => ?_⟩
    have hdf : upd H4 d (.frz od (.dK (imV ps))) d = some (.frz od (.dK (imV ps))) := upd_same
    have ntd : t ≠ d := fun e => by rw [e, hd4] at ht4; cases ht4
    have htf : upd H4 d (.frz od (.dK (imV ps))) t = some (.tup [.ref p, .ref d]) := by rw [upd_ne ntd]; exact ht4
    have imF : Imm cs.has H4 (upd H4 d (.frz od (.dK (imV ps)))) := Imm.mut hd4 id
    have hqs : ∀ q ∈ ps, ∃ kvs, upd H4 d (.frz od (.dK (imV ps))) q.2 = some (.dK kvs) := fun q hq => by
      obtain ⟨r, _, h⟩ := him4.2 q hq
      exact ⟨_, by rw [upd_ne (hqd q hq)]; exact h⟩
    have hnd : (ps.map (·.1)).Nodup := by
      rw [him.1]
      exact (List.nodup_range).sublist List.filter_sublist
    generalize upd H4 d (.frz od (.dK (imV ps))) = HF at hdf htf imF hqs ⊢
    refine ⟨_, rfl, t, _, 1, .ref d, rfl, rfl, SqT.of htf, rfl, d, od, rfl, .inl ⟨_, hdf, for_it walk_keys (fun i σ H' => ∃ v3 : Option V, σ = [some (.ref a), some v, some (.ref t), v3] ∧ Imm cs.has H4 H' ∧ H' d = some (.frz od (.dK (imV ps))) ∧ H' t = some (.tup [.ref p, .ref d]) ∧ ∀ q ∈ ps, ∃ kvs, H' q.2 = some (.dK kvs)) ⟨none, rfl, imF, hdf, htf, hqs⟩ (fun i σ H' _ ⟨_, _, _, z, _⟩ => z) ?_ ?_⟩⟩
    · rintro i y σ H5' H5 hi ⟨v3, rfl, im5, hd5, ht5, hq5⟩ ⟨rfl, kk, vv, hkv, rfl⟩
      obtain ⟨q, hq, e⟩ := List.mem_map.mp (List.mem_of_getElem? hkv)
      cases e
      walk_at "rd"
      obtain ⟨kq, hk⟩ := hq5 q hq
      refine ⟨_, rfl, t, _, 1, .ref d, rfl, rfl, SqT.of ht5, rfl, _, rfl, d, .ref q.2, rfl, .inl ⟨_, .inl (q.1 : Int), .inr ⟨_, hd5⟩, rfl, (imV_some hnd hq).symm⟩, .inr (.inr (.inl ⟨rfl, .inl ⟨_, hk⟩⟩)), q.2, _, rfl, rfl, hk, im5.trans (Imm.mut hk id), by rw [upd_ne (hqd q hq).symm]; exact hd5, by rw [upd_ne (fun e => by rw [e, hk] at ht5; cases ht5)]; exact ht5, fun q' hq' => ?_⟩
      by_cases e : q'.2 = q.2
      · exact ⟨[], by rw [e, upd_same]⟩
      · rw [upd_ne e]
        exact hq5 q' hq'
    rintro σ H5 ⟨v3, rfl, im5, hd5, ht5, hq5⟩
    walk_at "rd"
    refine ⟨hd5, ?_⟩
    have hd6 : upd H5 d (.dK (imV ps)) d = some (.dK (imV ps)) := upd_same
    have ht6 : upd H5 d (.dK (imV ps)) t = some (.tup [.ref p, .ref d]) := by rw [upd_ne ntd]; exact ht5
    have im6 : Imm cs.has H4 (upd H5 d (.dK (imV ps))) := im5.trans (Imm.mut hd5 id)
    generalize upd H5 d (.dK (imV ps)) = H6 at hd6 ht6 im6 ⊢
    refine ⟨_, rfl, t, _, 1, .ref d, rfl, rfl, SqT.of ht6, rfl, .inr (.inr (.inl ⟨rfl, .inl ⟨_, hd6⟩⟩)), d, _, rfl, rfl, hd6, ?_⟩
    have hL7 := hL4.mono (im6.trans (Imm.mut hd6 (o := .dK []) id))
    exact ⟨v, l, rfl, hL7, hF.1, fun r hr => (hF.2 r hr).1, fun H8 t2 p2 d2 ps2 s8 ht2 hp2 hd2 him2 _ => ⟨v, l, t2, p2, d2, ps2, rfl, hL7.mono (Same.imm s8), hF.1, hR, ht2, hp2, hd2, him2, fun H9 _ => k H9⟩⟩
end

--%% MM
end My
end
section
open PySem PySem.Spec L2 Ru
namespace My
def a_cs (K : PySem.W.Frag) : Cs := ⟨⟨(He.ga K "Fixed"), (He.ga K "Contact"), (He.ga K "Turned"), (He.ga K "Series"), (He.ga K "Branch")⟩, ⟨(He.ga K "Coil"), (He.ga K "Latch"), (He.ga K "Unlatch"), (He.ga K "Timer"), (He.ga K "Counter"), (He.ga K "End")⟩, (He.ga K "Rung"), (He.ga K "Ladder")⟩
def a_cc (K : PySem.W.Frag) : Addr := (He.ga K "Counting")
def a_xc (K : PySem.W.Frag) : Xc := ⟨(He.ga K "LadderError"), (He.ga K "NoName"), (He.ga K "NoPart"), (He.ga K "NoEnd"), (He.ga K "NoLadder"), 0, 0, (He.ga K "NoSheet"), 0, 0, (He.ga K "TooMany")⟩
def a_ch (K : PySem.W.Frag) : Addr := (He.ga K "Sheet")
theorem f_TNames {K : PySem.W.Frag} {h : Heap} {mg : Str → Option Value} (X : K.In h) (G : h.Ns mainGlobals mg) (c : Hd.Says Hh.facts Hh.defs K) : TNames K mg :=
  ⟨(Hd.def_of X G (c.at_ 1 rfl) (c.def_ 1 rfl) (fun _ _ _ _ _ _ us hl => match us, hl with | [_], _ => rfl)),
   (Hd.def_of X G (c.at_ 2 rfl) (c.def_ 2 rfl) (fun _ _ _ _ _ _ us hl => match us, hl with | [_], _ => rfl)),
   (Hd.con_of X G (c.at_ 3 rfl)),
   (Hd.con_of X G (c.at_ 4 rfl)),
   (Hd.tup_of X G (c.at_ 5 rfl)),
   (Hd.no_of X G (c.at_ 6 rfl))⟩
theorem f_TEnds {K : PySem.W.Frag} {h : Heap} {mg : Str → Option Value} (X : K.In h) (G : h.Ns mainGlobals mg) (c : Hd.Says Hh.facts Hh.defs K) : TEnds K mg (a_cs K).ce :=
  ⟨(f_TNames X G c),
   (Hd.cls_of X G (c.at_ 7 rfl)),
   (Hd.cls_of X G (c.at_ 8 rfl)),
   (Hd.cls_of X G (c.at_ 9 rfl)),
   (Hd.cls_of X G (c.at_ 10 rfl)),
   (Hd.cls_of X G (c.at_ 11 rfl)),
   (Hd.cls_of X G (c.at_ 12 rfl)),
   (Hd.na_of (c.at_ 13 rfl)),
   (Hd.na_of (c.at_ 14 rfl)),
   (Hd.na_of (c.at_ 15 rfl)),
   (Hd.na_of (c.at_ 16 rfl)),
   (Hd.na_of (c.at_ 17 rfl)),
   (Hd.na_of (c.at_ 18 rfl)),
   (Hd.na_of (c.at_ 19 rfl)),
   (Hd.met_of (c.at_ 20 rfl) (c.def_ 3 rfl) (fun _ _ _ _ _ _ us hl => match us, hl with | [_], _ => rfl)),
   (Hd.met_of (c.at_ 21 rfl) (c.def_ 4 rfl) (fun _ _ _ _ _ _ us hl => match us, hl with | [_], _ => rfl)),
   (Hd.met_of (c.at_ 22 rfl) (c.def_ 5 rfl) (fun _ _ _ _ _ _ us hl => match us, hl with | [_], _ => rfl)),
   (Hd.met_of (c.at_ 23 rfl) (c.def_ 6 rfl) (fun _ _ _ _ _ _ us hl => match us, hl with | [_], _ => rfl)),
   (Hd.met_of (c.at_ 24 rfl) (c.def_ 7 rfl) (fun _ _ _ _ _ _ us hl => match us, hl with | [_], _ => rfl)),
   (Hd.met_of (c.at_ 25 rfl) (c.def_ 8 rfl) (fun _ _ _ _ _ _ us hl => match us, hl with | [_], _ => rfl)),
   (Hd.met_of (c.at_ 26 rfl) (c.def_ 9 rfl) (fun _ _ _ _ _ _ us hl => match us, hl with | [_], _ => rfl)),
   (Hd.met_of (c.at_ 27 rfl) (c.def_ 10 rfl) (fun _ _ _ _ _ _ us hl => match us, hl with | [_], _ => rfl)),
   (Hd.met_of (c.at_ 28 rfl) (c.def_ 11 rfl) (fun _ _ _ _ _ _ us hl => match us, hl with | [_], _ => rfl)),
   (Hd.met_of (c.at_ 29 rfl) (c.def_ 12 rfl) (fun _ _ _ _ _ _ us hl => match us, hl with | [_], _ => rfl)),
   (Hd.met_of (c.at_ 30 rfl) (c.def_ 13 rfl) (fun _ _ _ _ _ _ us hl => match us, hl with | [_], _ => rfl)),
   (Hd.met_of (c.at_ 31 rfl) (c.def_ 14 rfl) (fun _ _ _ _ _ _ us hl => match us, hl with | [_], _ => rfl)),
   (Hd.met_of (c.at_ 32 rfl) (c.def_ 15 rfl) (fun _ _ _ _ _ _ us hl => match us, hl with | [_], _ => rfl)),
   (Hd.met_of (c.at_ 33 rfl) (c.def_ 16 rfl) (fun _ _ _ _ _ _ us hl => match us, hl with | [_], _ => rfl)),
   (Hd.met_of (c.at_ 34 rfl) (c.def_ 17 rfl) (fun _ _ _ _ _ _ us hl => match us, hl with | [_], _ => rfl)),
   (Hd.met_of (c.at_ 35 rfl) (c.def_ 18 rfl) (fun _ _ _ _ _ _ us hl => match us, hl with | [_, _], _ => rfl)),
   (Hd.met_of (c.at_ 36 rfl) (c.def_ 19 rfl) (fun _ _ _ _ _ _ us hl => match us, hl with | [_, _], _ => rfl)),
   (Hd.met_of (c.at_ 37 rfl) (c.def_ 20 rfl) (fun _ _ _ _ _ _ us hl => match us, hl with | [_, _], _ => rfl)),
   (Hd.met_of (c.at_ 38 rfl) (c.def_ 21 rfl) (fun _ _ _ _ _ _ us hl => match us, hl with | [_, _, _], _ => rfl)),
   (Hd.met_of (c.at_ 39 rfl) (c.def_ 22 rfl) (fun _ _ _ _ _ _ us hl => match us, hl with | [_, _, _], _ => rfl)),
   (Hd.cfn_of (c.at_ 40 rfl) (c.def_ 23 rfl) (fun _ _ _ _ _ _ us hl => match us, hl with | [_, _], _ => rfl)),
   (of_decide_eq_true (c.at_ 41 rfl)),
   (Hd.no_of X G (c.at_ 42 rfl)),
   (Hd.no_of X G (c.at_ 43 rfl)),
   (Hd.no_of X G (c.at_ 44 rfl)),
   (Hd.no_of X G (c.at_ 45 rfl)),
   (Hd.con_of X G (c.at_ 46 rfl))⟩
theorem f_TEnK {K : PySem.W.Frag} {h : Heap} {mg : Str → Option Value} (X : K.In h) (G : h.Ns mainGlobals mg) (c : Hd.Says Hh.facts Hh.defs K) : TEnK K mg (a_cs K).ce :=
  ⟨(f_TEnds X G c),
   (Hd.one_of (c.at_ 47 rfl)),
   (Hd.one_of (c.at_ 48 rfl)),
   (Hd.one_of (c.at_ 49 rfl)),
   (Hd.one_of (c.at_ 50 rfl)),
   (Hd.one_of (c.at_ 51 rfl)),
   (Hd.one_of (c.at_ 52 rfl)),
   (Hd.one_of (c.at_ 53 rfl)),
   (Hd.one_of (c.at_ 54 rfl)),
   (Hd.one_of (c.at_ 55 rfl)),
   (Hd.one_of (c.at_ 56 rfl)),
   (Hd.one_of (c.at_ 57 rfl)),
   (Hd.one_of (c.at_ 58 rfl)),
   (Hd.one_of (c.at_ 59 rfl)),
   (Hd.one_of (c.at_ 60 rfl)),
   (Hd.one_of (c.at_ 61 rfl)),
   (Hd.one_of (c.at_ 62 rfl)),
   (Hd.one_of (c.at_ 63 rfl)),
   (Hd.one_of (c.at_ 64 rfl)),
   (Hd.one_of (c.at_ 65 rfl)),
   (Hd.one_of (c.at_ 66 rfl)),
   (Hd.one_of (c.at_ 67 rfl)),
   (Hd.one_of (c.at_ 68 rfl)),
   (Hd.one_of (c.at_ 69 rfl)),
   (Hd.one_of (c.at_ 70 rfl)),
   (Hd.one_of (c.at_ 71 rfl)),
   (Hd.one_of (c.at_ 72 rfl)),
   (Hd.one_of (c.at_ 73 rfl)),
   (Hd.one_of (c.at_ 74 rfl)),
   (Hd.one_of (c.at_ 75 rfl)),
   (Hd.one_of (c.at_ 76 rfl))⟩
theorem f_TExs {K : PySem.W.Frag} {h : Heap} {mg : Str → Option Value} (X : K.In h) (G : h.Ns mainGlobals mg) (c : Hd.Says Hh.facts Hh.defs K) : TExs K mg (a_xc K) :=
  ⟨(Hd.err_of X G (c.at_ 77 rfl)),
   (Hd.exc_of X G (c.at_ 78 rfl)),
   (Hd.exc_of X G (c.at_ 79 rfl)),
   (Hd.exc_of X G (c.at_ 80 rfl)),
   (Hd.exc_of X G (c.at_ 81 rfl)),
   (Hd.exc_of X G (c.at_ 82 rfl)),
   (Hd.exc_of X G (c.at_ 83 rfl)),
   (of_decide_eq_true (c.at_ 84 rfl))⟩
theorem f_TLad {K : PySem.W.Frag} {h : Heap} {mg : Str → Option Value} (X : K.In h) (G : h.Ns mainGlobals mg) (c : Hd.Says Hh.facts Hh.defs K) : TLad K mg (a_cs K) (a_cc K) (a_xc K) :=
  ⟨(f_TEnK X G c),
   (f_TExs X G c),
   (Hd.cls_of X G (c.at_ 85 rfl)),
   (Hd.cls_of X G (c.at_ 86 rfl)),
   (Hd.cls_of X G (c.at_ 87 rfl)),
   (Hd.one_of (c.at_ 88 rfl)),
   (Hd.one_of (c.at_ 89 rfl)),
   (Hd.one_of (c.at_ 90 rfl)),
   (Hd.one_of (c.at_ 91 rfl)),
   (Hd.one_of (c.at_ 92 rfl)),
   (Hd.na_of (c.at_ 93 rfl)),
   (Hd.na_of (c.at_ 94 rfl)),
   (Hd.na_of (c.at_ 95 rfl)),
   (Hd.na_of (c.at_ 96 rfl)),
   (Hd.na_of (c.at_ 97 rfl)),
   (Hd.def_of X G (c.at_ 98 rfl) (c.def_ 24 rfl) (fun _ _ _ _ _ _ us hl => match us, hl with | [_, _, _], _ => rfl)),
   (Hd.def_of X G (c.at_ 99 rfl) (c.def_ 25 rfl) (fun _ _ _ _ _ _ us hl => match us, hl with | [_], _ => rfl)),
   (Hd.def_of X G (c.at_ 100 rfl) (c.def_ 26 rfl) (fun _ _ _ _ _ _ us hl => match us, hl with | [_], _ => rfl)),
   (Hd.met_of (c.at_ 101 rfl) (c.def_ 27 rfl) (fun _ _ _ _ _ _ us hl => match us, hl with | [_, _, _], _ => rfl)),
   (Hd.met_of (c.at_ 102 rfl) (c.def_ 28 rfl) (fun _ _ _ _ _ _ us hl => match us, hl with | [_, _, _, _], _ => rfl)),
   (Hd.met_of (c.at_ 103 rfl) (c.def_ 29 rfl) (fun _ _ _ _ _ _ us hl => match us, hl with | [_], _ => rfl)),
   (Hd.no_of X G (c.at_ 6 rfl)),
   (Hd.no_of X G (c.at_ 104 rfl)),
   (Hd.no_of X G (c.at_ 105 rfl)),
   (Hd.no_of X G (c.at_ 106 rfl)),
   (Hd.no_of X G (c.at_ 42 rfl)),
   (Hd.con_of X G (c.at_ 107 rfl)),
   (Hd.con_of X G (c.at_ 108 rfl)),
   (Hd.con_of X G (c.at_ 109 rfl))⟩
theorem f_TParts {K : PySem.W.Frag} {h : Heap} {mg : Str → Option Value} (X : K.In h) (G : h.Ns mainGlobals mg) (c : Hd.Says Hh.facts Hh.defs K) : TParts K mg (a_cs K).cl :=
  ⟨(Hd.cls_of X G (c.at_ 110 rfl)),
   (Hd.cls_of X G (c.at_ 111 rfl)),
   (Hd.cls_of X G (c.at_ 112 rfl)),
   (Hd.cls_of X G (c.at_ 113 rfl)),
   (Hd.cls_of X G (c.at_ 114 rfl)),
   (of_decide_eq_true (c.at_ 115 rfl)),
   (Hd.na_of (c.at_ 116 rfl)),
   (Hd.na_of (c.at_ 117 rfl)),
   (Hd.na_of (c.at_ 118 rfl)),
   (Hd.na_of (c.at_ 119 rfl)),
   (Hd.na_of (c.at_ 120 rfl)),
   (Hd.met_of (c.at_ 121 rfl) (c.def_ 30 rfl) (fun _ _ _ _ _ _ us hl => match us, hl with | [_], _ => rfl)),
   (Hd.met_of (c.at_ 122 rfl) (c.def_ 31 rfl) (fun _ _ _ _ _ _ us hl => match us, hl with | [_], _ => rfl)),
   (Hd.met_of (c.at_ 123 rfl) (c.def_ 32 rfl) (fun _ _ _ _ _ _ us hl => match us, hl with | [_], _ => rfl)),
   (Hd.met_of (c.at_ 124 rfl) (c.def_ 33 rfl) (fun _ _ _ _ _ _ us hl => match us, hl with | [_], _ => rfl)),
   (Hd.met_of (c.at_ 125 rfl) (c.def_ 34 rfl) (fun _ _ _ _ _ _ us hl => match us, hl with | [_], _ => rfl)),
   (Hd.met_of (c.at_ 126 rfl) (c.def_ 35 rfl) (fun _ _ _ _ _ _ us hl => match us, hl with | [_], _ => rfl)),
   (Hd.met_of (c.at_ 127 rfl) (c.def_ 36 rfl) (fun _ _ _ _ _ _ us hl => match us, hl with | [_], _ => rfl)),
   (Hd.met_of (c.at_ 128 rfl) (c.def_ 37 rfl) (fun _ _ _ _ _ _ us hl => match us, hl with | [_], _ => rfl)),
   (Hd.met_of (c.at_ 129 rfl) (c.def_ 38 rfl) (fun _ _ _ _ _ _ us hl => match us, hl with | [_], _ => rfl)),
   (Hd.met_of (c.at_ 130 rfl) (c.def_ 39 rfl) (fun _ _ _ _ _ _ us hl => match us, hl with | [_], _ => rfl)),
   (Hd.met_of (c.at_ 131 rfl) (c.def_ 40 rfl) (fun _ _ _ _ _ _ us hl => match us, hl with | [_], _ => rfl)),
   (Hd.met_of (c.at_ 132 rfl) (c.def_ 41 rfl) (fun _ _ _ _ _ _ us hl => match us, hl with | [_], _ => rfl)),
   (Hd.met_of (c.at_ 133 rfl) (c.def_ 42 rfl) (fun _ _ _ _ _ _ us hl => match us, hl with | [_], _ => rfl)),
   (Hd.met_of (c.at_ 134 rfl) (c.def_ 43 rfl) (fun _ _ _ _ _ _ us hl => match us, hl with | [_], _ => rfl)),
   (Hd.met_of (c.at_ 135 rfl) (c.def_ 44 rfl) (fun _ _ _ _ _ _ us hl => match us, hl with | [_], _ => rfl)),
   (Hd.met_of (c.at_ 136 rfl) (c.def_ 45 rfl) (fun _ _ _ _ _ _ us hl => match us, hl with | [_], _ => rfl)),
   (Hd.met_of (c.at_ 137 rfl) (c.def_ 46 rfl) (fun _ _ _ _ _ _ us hl => match us, hl with | [_], _ => rfl)),
   (Hd.met_of (c.at_ 138 rfl) (c.def_ 47 rfl) (fun _ _ _ _ _ _ us hl => match us, hl with | [_], _ => rfl)),
   (Hd.no_of X G (c.at_ 139 rfl)),
   (Hd.no_of X G (c.at_ 140 rfl)),
   (Hd.no_of X G (c.at_ 105 rfl)),
   (Hd.con_of X G (c.at_ 141 rfl)),
   (Hd.con_of X G (c.at_ 142 rfl))⟩
theorem f_TMake {K : PySem.W.Frag} {h : Heap} {mg : Str → Option Value} (X : K.In h) (G : h.Ns mainGlobals mg) (c : Hd.Says Hh.facts Hh.defs K) : TMake K mg (a_cs K).cl :=
  ⟨(f_TNames X G c),
   (f_TParts X G c),
   (Hd.met_of (c.at_ 143 rfl) (c.def_ 48 rfl) (fun _ _ _ _ _ _ us hl => match us, hl with | [_, _], _ => rfl)),
   (Hd.met_of (c.at_ 144 rfl) (c.def_ 49 rfl) (fun _ _ _ _ _ _ us hl => match us, hl with | [_, _], _ => rfl)),
   (Hd.met_of (c.at_ 145 rfl) (c.def_ 50 rfl) (fun _ _ _ _ _ _ us hl => match us, hl with | [_, _], _ => rfl)),
   (Hd.met_of (c.at_ 146 rfl) (c.def_ 51 rfl) (fun _ _ _ _ _ _ us hl => match us, hl with | [_, _], _ => rfl)),
   (Hd.met_of (c.at_ 147 rfl) (c.def_ 52 rfl) (fun _ _ _ _ _ _ us hl => match us, hl with | [_, _], _ => rfl)),
   (Hd.no_of X G (c.at_ 6 rfl)),
   (Hd.no_of X G (c.at_ 105 rfl))⟩
theorem f_TPartOf {K : PySem.W.Frag} {h : Heap} {mg : Str → Option Value} (X : K.In h) (G : h.Ns mainGlobals mg) (c : Hd.Says Hh.facts Hh.defs K) : TPartOf K mg (a_cs K).cl :=
  ⟨(f_TMake X G c),
   (Hd.def_of X G (c.at_ 148 rfl) (c.def_ 53 rfl) (fun _ _ _ _ _ _ us hl => match us, hl with | [_], _ => rfl)),
   (Hd.def_of X G (c.at_ 149 rfl) (c.def_ 54 rfl) (fun _ _ _ _ _ _ us hl => match us, hl with | [_, _], _ => rfl)),
   (Hd.def_of X G (c.at_ 150 rfl) (c.def_ 55 rfl) (fun _ _ _ _ _ _ us hl => match us, hl with | [_], _ => rfl)),
   (Hd.no_of X G (c.at_ 6 rfl))⟩
theorem f_TCells {K : PySem.W.Frag} {h : Heap} {mg : Str → Option Value} (X : K.In h) (G : h.Ns mainGlobals mg) (c : Hd.Says Hh.facts Hh.defs K) : TCells K mg :=
  ⟨(Hd.def_of X G (c.at_ 151 rfl) (c.def_ 56 rfl) (fun _ _ _ _ _ _ us hl => match us, hl with | [_, _], _ => rfl)),
   (Hd.def_of X G (c.at_ 152 rfl) (c.def_ 57 rfl) (fun _ _ _ _ _ _ us hl => match us, hl with | [_, _], _ => rfl)),
   (Hd.def_of X G (c.at_ 153 rfl) (c.def_ 58 rfl) (fun _ _ _ _ _ _ us hl => match us, hl with | [_, _], _ => rfl)),
   (Hd.def_of X G (c.at_ 154 rfl) (c.def_ 59 rfl) (fun _ _ _ _ _ _ us hl => match us, hl with | [_, _], _ => rfl)),
   (Hd.no_of X G (c.at_ 6 rfl)),
   (Hd.no_of X G (c.at_ 155 rfl))⟩
theorem f_TGrown {K : PySem.W.Frag} {h : Heap} {mg : Str → Option Value} (X : K.In h) (G : h.Ns mainGlobals mg) (c : Hd.Says Hh.facts Hh.defs K) : TGrown K mg :=
  ⟨(f_TCells X G c),
   (Hd.def_of X G (c.at_ 156 rfl) (c.def_ 60 rfl) (fun _ _ _ _ _ _ us hl => match us, hl with | [_, _, _], _ => rfl)),
   (Hd.def_of X G (c.at_ 157 rfl) (c.def_ 61 rfl) (fun _ _ _ _ _ _ us hl => match us, hl with | [_, _, _], _ => rfl)),
   (Hd.no_of X G (c.at_ 6 rfl)),
   (Hd.no_of X G (c.at_ 155 rfl)),
   (Hd.no_of X G (c.at_ 105 rfl)),
   (Hd.no_of X G (c.at_ 140 rfl))⟩
theorem f_TLadBy {K : PySem.W.Frag} {h : Heap} {mg : Str → Option Value} (X : K.In h) (G : h.Ns mainGlobals mg) (c : Hd.Says Hh.facts Hh.defs K) : TLadBy K mg (a_cs K) (a_cc K) (a_xc K) :=
  ⟨(f_TLad X G c),
   (f_TPartOf X G c),
   (f_TGrown X G c),
   (Hd.def_of X G (c.at_ 158 rfl) (c.def_ 62 rfl) (fun _ _ _ _ _ _ us hl => match us, hl with | [_, _, _, _], _ => rfl)),
   (Hd.def_of X G (c.at_ 159 rfl) (c.def_ 63 rfl) (fun _ _ _ _ _ _ us hl => match us, hl with | [_, _], _ => rfl)),
   (Hd.no_of X G (c.at_ 155 rfl)),
   (Hd.no_of X G (c.at_ 160 rfl)),
   (Hd.no_of X G (c.at_ 43 rfl))⟩
theorem f_TSheet {K : PySem.W.Frag} {h : Heap} {mg : Str → Option Value} (X : K.In h) (G : h.Ns mainGlobals mg) (c : Hd.Says Hh.facts Hh.defs K) : TSheet K mg (a_xc K) (a_ch K) :=
  ⟨(Hd.exc_of X G (c.at_ 83 rfl)),
   (Hd.cls_of X G (c.at_ 161 rfl)),
   (Hd.na_of (c.at_ 162 rfl)),
   (Hd.na_of (c.at_ 163 rfl)),
   (Hd.na_of (c.at_ 164 rfl)),
   (Hd.met_of (c.at_ 165 rfl) (c.def_ 64 rfl) (fun _ _ _ _ _ _ us hl => match us, hl with | [_, _], _ => rfl)),
   (Hd.met_of (c.at_ 166 rfl) (c.def_ 65 rfl) (fun _ _ _ _ _ _ us hl => match us, hl with | [_, _, _, _], _ => rfl)),
   (Hd.met_of (c.at_ 167 rfl) (c.def_ 66 rfl) (fun _ _ _ _ _ _ us hl => match us, hl with | [_, _, _], _ => rfl)),
   (Hd.met_of (c.at_ 168 rfl) (c.def_ 67 rfl) (fun _ _ _ _ _ _ us hl => match us, hl with | [_, _, _, _, _], _ => rfl)),
   (Hd.con_of X G (c.at_ 169 rfl)),
   (Hd.no_of X G (c.at_ 6 rfl)),
   (Hd.no_of X G (c.at_ 170 rfl))⟩
theorem f_TOpp {K : PySem.W.Frag} {h : Heap} {mg : Str → Option Value} (X : K.In h) (G : h.Ns mainGlobals mg) (c : Hd.Says Hh.facts Hh.defs K) : TOpp K mg (a_xc K) (a_ch K) :=
  ⟨(f_TSheet X G c),
   (Hd.met_of (c.at_ 171 rfl) (c.def_ 68 rfl) (fun _ _ _ _ _ _ us hl => match us, hl with | [_, _, _], _ => rfl))⟩
theorem f_TPaK {K : PySem.W.Frag} {h : Heap} {mg : Str → Option Value} (X : K.In h) (G : h.Ns mainGlobals mg) (c : Hd.Says Hh.facts Hh.defs K) : TPaK K mg (a_cs K).cl :=
  ⟨(f_TParts X G c),
   (Hd.one_of (c.at_ 172 rfl)),
   (Hd.one_of (c.at_ 173 rfl)),
   (Hd.one_of (c.at_ 174 rfl)),
   (Hd.one_of (c.at_ 175 rfl)),
   (Hd.one_of (c.at_ 176 rfl)),
   (Hd.one_of (c.at_ 177 rfl)),
   (Hd.one_of (c.at_ 178 rfl)),
   (Hd.one_of (c.at_ 179 rfl)),
   (Hd.one_of (c.at_ 180 rfl)),
   (Hd.one_of (c.at_ 181 rfl)),
   (Hd.one_of (c.at_ 182 rfl)),
   (Hd.one_of (c.at_ 183 rfl)),
   (Hd.one_of (c.at_ 184 rfl)),
   (Hd.one_of (c.at_ 185 rfl)),
   (Hd.one_of (c.at_ 186 rfl)),
   (Hd.one_of (c.at_ 187 rfl)),
   (Hd.one_of (c.at_ 188 rfl)),
   (Hd.one_of (c.at_ 189 rfl)),
   (Hd.one_of (c.at_ 190 rfl)),
   (Hd.one_of (c.at_ 191 rfl))⟩
theorem f_TDrawn {K : PySem.W.Frag} {h : Heap} {mg : Str → Option Value} (X : K.In h) (G : h.Ns mainGlobals mg) (c : Hd.Says Hh.facts Hh.defs K) : TDrawn K mg (a_cs K).cl (a_xc K) (a_ch K) :=
  ⟨(f_TOpp X G c),
   (f_TPaK X G c),
   (Hd.met_of (c.at_ 192 rfl) (c.def_ 69 rfl) (fun _ _ _ _ _ _ us hl => match us, hl with | [_, _], _ => rfl)),
   (Hd.no_of X G (c.at_ 42 rfl)),
   (Hd.no_of X G (c.at_ 43 rfl))⟩
theorem f_TGather {K : PySem.W.Frag} {h : Heap} {mg : Str → Option Value} (X : K.In h) (G : h.Ns mainGlobals mg) (c : Hd.Says Hh.facts Hh.defs K) : TGather K mg (a_cs K).cl :=
  ⟨(f_TParts X G c),
   (Hd.met_of (c.at_ 193 rfl) (c.def_ 70 rfl) (fun _ _ _ _ _ _ us hl => match us, hl with | [_, _], _ => rfl)),
   (Hd.met_of (c.at_ 194 rfl) (c.def_ 71 rfl) (fun _ _ _ _ _ _ us hl => match us, hl with | [_, _], _ => rfl)),
   (Hd.met_of (c.at_ 195 rfl) (c.def_ 72 rfl) (fun _ _ _ _ _ _ us hl => match us, hl with | [_, _], _ => rfl)),
   (Hd.met_of (c.at_ 196 rfl) (c.def_ 73 rfl) (fun _ _ _ _ _ _ us hl => match us, hl with | [_, _], _ => rfl)),
   (Hd.met_of (c.at_ 197 rfl) (c.def_ 74 rfl) (fun _ _ _ _ _ _ us hl => match us, hl with | [_, _], _ => rfl)),
   (Hd.met_of (c.at_ 198 rfl) (c.def_ 75 rfl) (fun _ _ _ _ _ _ us hl => match us, hl with | [_], _ => rfl)),
   (Hd.met_of (c.at_ 199 rfl) (c.def_ 76 rfl) (fun _ _ _ _ _ _ us hl => match us, hl with | [_], _ => rfl)),
   (Hd.met_of (c.at_ 200 rfl) (c.def_ 77 rfl) (fun _ _ _ _ _ _ us hl => match us, hl with | [_], _ => rfl)),
   (Hd.met_of (c.at_ 201 rfl) (c.def_ 78 rfl) (fun _ _ _ _ _ _ us hl => match us, hl with | [_], _ => rfl)),
   (Hd.met_of (c.at_ 202 rfl) (c.def_ 79 rfl) (fun _ _ _ _ _ _ us hl => match us, hl with | [_], _ => rfl)),
   (Hd.no_of X G (c.at_ 105 rfl))⟩
theorem f_TSh {K : PySem.W.Frag} {h : Heap} {mg : Str → Option Value} (X : K.In h) (G : h.Ns mainGlobals mg) (c : Hd.Says Hh.facts Hh.defs K) : TSh K mg (a_cs K).cl (a_xc K) (a_ch K) :=
  ⟨(f_TDrawn X G c),
   (f_TNames X G c),
   (f_TGather X G c),
   (Hd.exc_of X G (c.at_ 78 rfl)),
   (Hd.exc_of X G (c.at_ 82 rfl)),
   (Hd.met_of (c.at_ 203 rfl) (c.def_ 80 rfl) (fun _ _ _ _ _ _ us hl => match us, hl with | [_, _], _ => rfl)),
   (Hd.met_of (c.at_ 204 rfl) (c.def_ 81 rfl) (fun _ _ _ _ _ _ us hl => match us, hl with | [_, _], _ => rfl)),
   (Hd.met_of (c.at_ 205 rfl) (c.def_ 82 rfl) (fun _ _ _ _ _ _ us hl => match us, hl with | [_, _], _ => rfl)),
   (Hd.con_of X G (c.at_ 206 rfl)),
   (Hd.no_of X G (c.at_ 6 rfl)),
   (Hd.no_of X G (c.at_ 104 rfl)),
   (Hd.no_of X G (c.at_ 105 rfl)),
   (Hd.no_of X G (c.at_ 42 rfl)),
   (Hd.no_of X G (c.at_ 43 rfl)),
   (Hd.no_of X G (c.at_ 44 rfl))⟩
theorem f_TRow {K : PySem.W.Frag} {h : Heap} {mg : Str → Option Value} (X : K.In h) (G : h.Ns mainGlobals mg) (c : Hd.Says Hh.facts Hh.defs K) : TRow K mg (a_cs K).cl (a_xc K) (a_ch K) :=
  ⟨(f_TSh X G c),
   (Hd.met_of (c.at_ 207 rfl) (c.def_ 83 rfl) (fun _ _ _ _ _ _ us hl => match us, hl with | [_, _], _ => rfl))⟩
theorem f_TTurn {K : PySem.W.Frag} {h : Heap} {mg : Str → Option Value} (X : K.In h) (G : h.Ns mainGlobals mg) (c : Hd.Says Hh.facts Hh.defs K) : TTurn K mg (a_cs K).cl (a_xc K) (a_ch K) :=
  ⟨(f_TSh X G c),
   (Hd.met_of (c.at_ 208 rfl) (c.def_ 84 rfl) (fun _ _ _ _ _ _ us hl => match us, hl with | [_, _], _ => rfl)),
   (Hd.no_of X G (c.at_ 6 rfl))⟩
theorem f_TLook {K : PySem.W.Frag} {h : Heap} {mg : Str → Option Value} (X : K.In h) (G : h.Ns mainGlobals mg) (c : Hd.Says Hh.facts Hh.defs K) : TLook K mg (a_cs K) (a_cc K) (a_xc K) (a_ch K) :=
  ⟨(f_TLad X G c),
   (f_TRow X G c),
   (f_TTurn X G c),
   (Hd.def_of X G (c.at_ 209 rfl) (c.def_ 85 rfl) (fun _ _ _ _ _ _ us hl => match us, hl with | [_], _ => rfl)),
   (Hd.no_of X G (c.at_ 210 rfl)),
   (Hd.no_of X G (c.at_ 105 rfl))⟩
theorem f_TLHolds {K : PySem.W.Frag} {h : Heap} {mg : Str → Option Value} (X : K.In h) (G : h.Ns mainGlobals mg) (c : Hd.Says Hh.facts Hh.defs K) : TLHolds K mg :=
  ⟨(Hd.def_of X G (c.at_ 211 rfl) (c.def_ 86 rfl) (fun _ _ _ _ _ _ us hl => match us, hl with | [_, _], _ => rfl)),
   (Hd.def_of X G (c.at_ 212 rfl) (c.def_ 87 rfl) (fun _ _ _ _ _ _ us hl => match us, hl with | [_, _], _ => rfl))⟩
theorem f_TOwn {K : PySem.W.Frag} {h : Heap} {mg : Str → Option Value} (X : K.In h) (G : h.Ns mainGlobals mg) (c : Hd.Says Hh.facts Hh.defs K) : TOwn K mg :=
  ⟨(f_TLHolds X G c),
   (Hd.def_of X G (c.at_ 213 rfl) (c.def_ 88 rfl) (fun _ _ _ _ _ _ us hl => match us, hl with | [_], _ => rfl)),
   (Hd.def_of X G (c.at_ 214 rfl) (c.def_ 89 rfl) (fun _ _ _ _ _ _ us hl => match us, hl with | [_, _], _ => rfl)),
   (Hd.def_of X G (c.at_ 215 rfl) (c.def_ 90 rfl) (fun _ _ _ _ _ _ us hl => match us, hl with | [_], _ => rfl)),
   (Hd.def_of X G (c.at_ 216 rfl) (c.def_ 91 rfl) (fun _ _ _ _ _ _ us hl => match us, hl with | [_], _ => rfl)),
   (Hd.no_of X G (c.at_ 6 rfl)),
   (Hd.no_of X G (c.at_ 155 rfl)),
   (Hd.no_of X G (c.at_ 42 rfl)),
   (Hd.no_of X G (c.at_ 43 rfl)),
   (Hd.no_of X G (c.at_ 44 rfl))⟩
theorem f_TTold {K : PySem.W.Frag} {h : Heap} {mg : Str → Option Value} (X : K.In h) (G : h.Ns mainGlobals mg) (c : Hd.Says Hh.facts Hh.defs K) : TTold K mg (a_cs K).cl :=
  ⟨(f_TParts X G c),
   (Hd.met_of (c.at_ 217 rfl) (c.def_ 92 rfl) (fun _ _ _ _ _ _ us hl => match us, hl with | [_], _ => rfl)),
   (Hd.met_of (c.at_ 218 rfl) (c.def_ 93 rfl) (fun _ _ _ _ _ _ us hl => match us, hl with | [_], _ => rfl)),
   (Hd.met_of (c.at_ 219 rfl) (c.def_ 94 rfl) (fun _ _ _ _ _ _ us hl => match us, hl with | [_], _ => rfl)),
   (Hd.met_of (c.at_ 220 rfl) (c.def_ 95 rfl) (fun _ _ _ _ _ _ us hl => match us, hl with | [_], _ => rfl)),
   (Hd.met_of (c.at_ 221 rfl) (c.def_ 96 rfl) (fun _ _ _ _ _ _ us hl => match us, hl with | [_], _ => rfl)),
   (Hd.met_of (c.at_ 222 rfl) (c.def_ 97 rfl) (fun _ _ _ _ _ _ us hl => match us, hl with | [_], _ => rfl)),
   (Hd.met_of (c.at_ 223 rfl) (c.def_ 98 rfl) (fun _ _ _ _ _ _ us hl => match us, hl with | [_], _ => rfl)),
   (Hd.no_of X G (c.at_ 105 rfl))⟩
theorem f_TRight {K : PySem.W.Frag} {h : Heap} {mg : Str → Option Value} (X : K.In h) (G : h.Ns mainGlobals mg) (c : Hd.Says Hh.facts Hh.defs K) : TRight K mg (a_cs K) (a_cc K) (a_xc K) :=
  ⟨(f_TOwn X G c),
   (f_TLad X G c),
   (f_TTold X G c),
   (Hd.def_of X G (c.at_ 224 rfl) (c.def_ 99 rfl) (fun _ _ _ _ _ _ us hl => match us, hl with | [_, _], _ => rfl)),
   (Hd.def_of X G (c.at_ 225 rfl) (c.def_ 100 rfl) (fun _ _ _ _ _ _ us hl => match us, hl with | [_, _], _ => rfl)),
   (Hd.no_of X G (c.at_ 6 rfl)),
   (Hd.no_of X G (c.at_ 155 rfl)),
   (Hd.no_of X G (c.at_ 42 rfl)),
   (Hd.no_of X G (c.at_ 226 rfl)),
   (Hd.no_of X G (c.at_ 105 rfl)),
   (Hd.no_of X G (c.at_ 44 rfl)),
   (Hd.no_of X G (c.at_ 160 rfl))⟩
theorem f_Txt {K : PySem.W.Frag} {h : Heap} {mg : Str → Option Value} (X : K.In h) (G : h.Ns mainGlobals mg) (c : Hd.Says Hh.facts Hh.defs K) : Txt K mg (a_cs K) (a_cc K) (a_xc K) (a_ch K) :=
  ⟨(Hd.law_of X G (c.at_ 0 rfl) (c.def_ 0 rfl) (fun _ _ _ _ _ _ _ => rfl)),
   (f_TLadBy X G c),
   (f_TLook X G c),
   (f_TRight X G c),
   (Hd.def_of X G (c.at_ 227 rfl) (c.def_ 101 rfl) (fun _ _ _ _ _ _ us hl => match us, hl with | [_], _ => rfl)),
   (Hd.def_of X G (c.at_ 228 rfl) (c.def_ 102 rfl) (fun _ _ _ _ _ _ us hl => match us, hl with | [_, _], _ => rfl)),
   (Hd.no_of X G (c.at_ 6 rfl)),
   (Hd.no_of X G (c.at_ 155 rfl)),
   (Hd.no_of X G (c.at_ 105 rfl)),
   (Hd.no_of X G (c.at_ 160 rfl))⟩
theorem law_fin {P : Program} {w : World} {K : PySem.W.Frag} {mg : Str → Option Value} {h : Heap} {fa : Addr} (X : K.In h) (G : h.Ns mainGlobals mg) (hfa : mg "law" = some (.ref fa)) (c : Hd.Says Hh.facts Hh.defs K) :
    ∃ fd : FuncData, (∀ (s : Shared) (u : Value), BindsTo s fd ⟨[u], []⟩ [("_law_script", u)]) ∧ ∀ base : Heap, K.In base → base.Ns mainGlobals mg → FnOk P w K mg base CX0 90 fa fd ["_law_script"] (spLaw K) :=
  law_end (f_Txt X G c).law hfa fun base f fd F => ok_law (f_Txt X G c) F
end My
end
open PySem PySem.W PySem.Calls PyProof.Rows
set_option maxRecDepth 100000 in
set_option maxHeartbeats 0 in
theorem PySem.Challenge.cw_rungworks_k42_always_holds : PySem.Challenge.rw_rungworks_k42_always.Holds := by
  w_on; o_law
  refine HandSHeadRun.head_any (r := OpenLaw.row PySem.Challenge.rw_rungworks_k42_always) (q := view (OpenLaw.row PySem.Challenge.rw_rungworks_k42_always).prog [72]) (H := Hh.hk) (ob := Hh.ob) (M := 9000) (loose := Hh.names) (d := HandSHeadRun.topDef (OpenLaw.row PySem.Challenge.rw_rungworks_k42_always).prog 72) (kwd := []) Hh.ob_eq
    (by kernel_rfl) (fun s => by kernel_rfl) Hh.run (by kernel_rfl) (by kernel_rfl) (by kernel_rfl) (by rfl) (by first | assumption | decide +kernel) (by decide +kernel) ⟨rfl, rfl, rfl, rfl, rfl, by decide +kernel⟩ ?hw ?hc
  case hw => w_witness2
  case hc =>
    exact Hd.walk (l := PySem.Challenge.rw_rungworks_k42_always) (n := Hh.addrs) (k := 90) (p := "_law_script") (B := Hh.facts) (fn := Hh.defs) ⟨rfl, by decide, by decide⟩ rfl (by kernel_rfl) (by kernel_rfl) fun w mg fa h K X G hmg c => My.law_fin X G hmg c
#print axioms PySem.Challenge.cw_rungworks_k42_always_holds

