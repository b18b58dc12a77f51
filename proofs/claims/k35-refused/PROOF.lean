import PyProof.Rows.All
import Wide.All
import OpenK.AllK
import Wide.FinOn
import HandS.Defaults
import HandS.Head0
import HandS.Head1
import HandS.Head2
import HandS.HeadEnd
import HandS.HeadHook1
import HandS.HeadHook2
import HandS.HeadNt
import HandS.ForMost
import HandS.Codes
import HandS.Style
import HandS.IsInst
import KE.KDictSum
import HandS.Conv
import HandS.ExcOwn
import HandS.ExcIs
import HandS.HotCalls
import HandS.Strs
import HandS.Zip
import HandS.Rev
import HandS.DictComp
import PyProof.NeKinds
import KE.KEqNest
import HandS.TryOnly
import PyProof.EqKinds
import HandS.ListItems
import HandS.Flow
import HandS.TupMul
import HandS.SetKeys
import HandS.TupAny
import HandS.Walk
import HandS.Deep
import HandS.More
import PySem.Challenge.RW_rungworks_k35_refused
set_option Elab.async false
set_option linter.all false
set_option maxRecDepth 100000
set_option maxHeartbeats 2000000
/-! The head by one kernel run: every fact a law leans on is one Bool of the part of the heap that the module's names reach. -/
namespace Hd
open PySem PySem.Spec PyProof.Rows L2
/-! ## what is looked at -/
def tells (K : PySem.W.Frag) : List He5.DefA → List He5.FnW
  | [] => []
  | d :: r => He5.fnA K (d.at_ K) :: tells K r
def vals : List He5.DefA → List He5.FnW
  | [] => []
  | d :: r => d.val :: vals r
theorem tells_eq (K : PySem.W.Frag) : ∀ l, tells K l = l.map fun d => He5.fnA K (d.at_ K)
  | [] => rfl
  | d :: r => congrArg (He5.fnA K (d.at_ K) :: ·) (tells_eq K r)
theorem vals_eq : ∀ l, vals l = l.map He5.DefA.val
  | [] => rfl
  | d :: r => congrArg (d.val :: ·) (vals_eq r)
/-- not by List.map: of two maps over one list the kernel compares the functions first, over all of the heap -/
def seen (B : PySem.W.Frag → List Bool) (fn : List He5.DefA) (K : PySem.W.Frag) : He.AlD := ((B K).all (fun b => b) && fn.all fun d => d.ok K, tells K fn)
def want (fn : List He5.DefA) : He.AlD := (true, vals fn)
def Says (B : PySem.W.Frag → List Bool) (fn : List He5.DefA) (K : PySem.W.Frag) : Prop := seen B fn K = want fn
/-- n: the addresses that are looked at -/
def seenG (n : List Addr) (B : PySem.W.Frag → List Bool) (fn : List He5.DefA) (g : Addr → Option Obj) : He.AlD := seen B fn (He.frG g n)
def hook (n : List Addr) (B : PySem.W.Frag → List Bool) (fn : List He5.DefA) : PySem.W.Hook where
  α := He.AlD
  obs := fun s => seenG n B fn s.heap.get?
  val := fun _ => want fn
  says := fun _ h => ∃ K : PySem.W.Frag, K.In h ∧ Says B fn K
  of := fun _ _ e => ⟨_, He.frG_in, e⟩
  keeps := fun _ _ _ ⟨K, i, c⟩ k => ⟨K, PySem.W.Frag.In.keeps i k, c⟩
theorem seenG_eq {n : List Addr} {B : PySem.W.Frag → List Bool} {fn : List He5.DefA} {g : Addr → Option Obj} {s : Shared} (h : ∀ a, g a = s.heap.get? a) : seenG n B fn g = (hook n B fn).obs s := by
  obtain rfl : g = s.heap.get? := funext h
  rfl
section
variable {B : PySem.W.Frag → List Bool} {fn : List He5.DefA} {K : PySem.W.Frag}
theorem Says.at_ (c : Says B fn K) (i : Nat) {b : Bool} (h : (B K)[i]? = some b) : b = true :=
  List.all_eq_true.mp (Bool.and_eq_true_iff.mp (congrArg Prod.fst c)).1 b (List.mem_of_getElem? h)
theorem Says.def_ (c : Says B fn K) (i : Nat) {d : He5.DefA} (h : fn[i]? = some d) : ∃ fd, FunD K d.name d.qual d.params d.body d.scope (d.dvs K) (d.kws K) (d.at_ K) fd := by
  have e : (tells K fn)[i]? = (vals fn)[i]? := congrArg (fun l => l[i]?) (congrArg Prod.snd c)
  rw [tells_eq, vals_eq] at e
  rw [List.getElem?_map, List.getElem?_map, h] at e
  exact He5.DefA.funD (Option.some.inj e) (List.all_eq_true.mp (Bool.and_eq_true_iff.mp (congrArg Prod.fst c)).2 d (List.mem_of_getElem? h))
end
/-! ## facts as Bools -/
section
variable (K : PySem.W.Frag)
/-- the module's x is the object at a -/
def gB (x : Str) (a : Addr) : Bool := He.eqO (PySem.W.nsIn K mainGlobals x) (some (some (.ref a)))
def noB (x : Str) : Bool := He.eqO (PySem.W.nsIn K mainGlobals x) (some none)
def conB (x : Str) (v : V) : Bool := match PySem.W.nsIn K mainGlobals x with
  | some (some u) => He.relB v u
  | _ => false
def tupB (x : Str) (vs : List V) : Bool := match PySem.W.nsIn K mainGlobals x with
  | some (some (.ref a)) => (match K.lookup a with
    | some ⟨.type c, _, .seq its _, _⟩ => decide (c = "tuple") && (decide (its.size ≤ sizeLine) && He.relAll vs its.toList)
    | _ => false)
  | _ => false
def clsB (x : Str) (C : Addr) : Bool := gB K x C && (PySem.W.plainGet K C Str.empty && (PySem.W.hasDictIn K C && (PySem.W.plainOver K C && (He.eqO (PySem.W.findIn K (.ref C) "__setattr__") (some (some (.builtin "object.__setattr__"))) &&
  (He.eqO (PySem.W.findIn K (.ref C) "__class__") (some (some (.builtin "object.__class__"))) && (He.eqO (PySem.W.specialIn K (.builtin "object.__class__") "__get__") (some (some (.builtin "getset_descriptor.__get__"))) &&
  (decide (PySem.W.takesIn K (.builtin "object.__class__") = some true) && (decide (PySem.W.mroIn K C (.type "object") = some true) && (PySem.W.makesIn K C && PySem.W.keepIn K (.ref C))))))))))
def errB (x : Str) (C : Addr) : Bool := gB K x C && (decide (PySem.W.subIn K (.ref C) (.type "BaseException") = some true) && (decide (PySem.W.typeIn K (.ref C) = some (.type "type")) && PySem.W.hasDictIn K C))
def mroB (C L : Addr) : Bool := match PySem.W.clsIn K C with
  | some cd => decide (cd.mro = [.ref C, .ref L, .type "ValueError", .type "Exception", .type "BaseException", .type "object"])
  | none => false
def excB (x : Str) (C L : Addr) : Bool := gB K x C && (PySem.W.excIn K C [.type "ValueError", .type "Exception", .type "BaseException", .type "object"] "ValueError.__new__" && (PySem.W.keepIn K (.ref C) &&
  (He.eqO (PySem.W.findIn K (.ref C) "__getattribute__") (some (some (.builtin "BaseException.__getattribute__"))) && (He.eqO (PySem.W.findIn K (.ref C) "__getattr__") (some none) && (decide (PySem.W.subIn K (.ref C) (.type "BaseException") = some true) &&
  (PySem.W.hasDictIn K C && (He.eqO (PySem.W.findIn K (.ref C) "__class__") (some (some (.builtin "object.__class__"))) && (He.eqO (PySem.W.specialIn K (.builtin "object.__class__") "__get__") (some (some (.builtin "getset_descriptor.__get__"))) &&
  (decide (PySem.W.takesIn K (.builtin "object.__class__") = some true) && (decide (PySem.W.mroIn K C (.type "object") = some true) && (decide (PySem.W.typeIn K (.ref C) = some (.type "type")) && mroB K C L)))))))))))
def naB (C : Addr) (x : Str) : Bool := He.eqO (PySem.W.findIn K (.ref C) x) (some none)
def oneB (a b : Addr) (r : Bool) : Bool := decide (PySem.W.kitOne K (.ref a) (.ref b) = some r)
def metB (C : Addr) (m : Str) : Bool := He.eqO (PySem.W.findIn K (.ref C) m) (some (some (.ref (He.ma K C m)))) && (PySem.W.isFn K (.ref (He.ma K C m)) && PySem.W.keepIn K (.ref (He.ma K C m)))
def ca (C : Addr) (m : Str) : Addr := match PySem.W.findCls K (.ref C) (.type "type") m with
  | some (.val (.ref f)) => f
  | _ => 0
def cfnB (C : Addr) (m : Str) : Bool := PySem.W.readsIn K C (.type "type") && (He.eqO (PySem.W.specialIn K (.ref C) "__getattribute__") (some (some (.builtin "type.__getattribute__"))) && (match PySem.W.findCls K (.ref C) (.type "type") m with
  | some (.val (.ref _)) => true
  | _ => false))
end
theorem two {a b : Bool} (h : (a && b) = true) : a = true ∧ b = true := Bool.and_eq_true_iff.mp h
/-! ## defs -/
/-- a def as the text has it -/
def dA (at_ : PySem.W.Frag → Addr) (name qual : Str) (st : Stmt) : He5.DefA := ⟨at_, name, qual, defArgs st, defBody st, defScope st, [], []⟩
/-! ## the run in parts -/
noncomputable def endOf (r : PySem.W.OpenRow) (M : Nat) (w : World) (os : OsState) : Option PySem.W.SharedT := HandSHeadRun.endF (HandSHeadRun.stepQ (HandSHeadRun.denQ HandSHeadRun.tabQ) r.prog w) M r.prog w os
/-- some of the facts hold behind the top -/
def Part (r : PySem.W.OpenRow) (M : Nat) (n : List Addr) (B : PySem.W.Frag → List Bool) (fn : List He5.DefA) (w : World) : Prop := ∀ os : OsState, (endOf r M w os).map (fun s => seenG n B fn (HandSHeadRun.getT s)) = some (want fn)
theorem seen_app {B1 B2 : PySem.W.Frag → List Bool} {f1 f2 : List He5.DefA} {K : PySem.W.Frag} (h1 : seen B1 f1 K = want f1) (h2 : seen B2 f2 K = want f2) : seen (fun K => B1 K ++ B2 K) (f1 ++ f2) K = want (f1 ++ f2) := by
  obtain ⟨a1, b1⟩ := Prod.mk.inj h1
  obtain ⟨a2, b2⟩ := Prod.mk.inj h2
  obtain ⟨c1, d1⟩ := two a1
  obtain ⟨c2, d2⟩ := two a2
  refine Prod.ext ?_ ?_
  · show ((B1 K ++ B2 K).all (fun b => b) && (f1 ++ f2).all fun d => d.ok K) = true
    rw [List.all_append, List.all_append, c1, c2, d1, d2]
    rfl
  · show tells K (f1 ++ f2) = vals (f1 ++ f2)
    rw [tells_eq, vals_eq] at b1 b2 ⊢
    rw [List.map_append, List.map_append, b1, b2]
theorem Part.app {r : PySem.W.OpenRow} {M : Nat} {n : List Addr} {B1 B2 : PySem.W.Frag → List Bool} {f1 f2 : List He5.DefA} {w : World} (h1 : Part r M n B1 f1 w) (h2 : Part r M n B2 f2 w) : Part r M n (fun K => B1 K ++ B2 K) (f1 ++ f2) w := fun os => by
  have a := h1 os
  have b := h2 os
  cases e : endOf r M w os with
  | none =>
    rw [e] at a
    cases a
  | some s =>
    rw [e] at a b
    exact congrArg some (seen_app (Option.some.inj a) (Option.some.inj b))
theorem run_of {r : PySem.W.OpenRow} {q : Program} {M : Nat} {n : List Addr} {B : PySem.W.Frag → List Bool} {fn : List He5.DefA} {loose : List Str} {w : World} (h0 : HandSHeadRun.RunEq r q PySem.W.Hook.none (fun _ => ()) M loose w) (h1 : Part r M n B fn w) :
    HandSHeadRun.RunEq r q (hook n B fn) (fun s => seenG n B fn (HandSHeadRun.getT s)) M loose w := fun os => by
  have a := h0 os
  have b := h1 os
  unfold endOf at b
  cases e : HandSHeadRun.endF (HandSHeadRun.stepQ (HandSHeadRun.denQ HandSHeadRun.tabQ) r.prog w) M r.prog w os with
  | none =>
    rw [e] at a
    cases a
  | some s =>
    rw [e] at a b
    have a1 := Option.some.inj a
    have b1 := Option.some.inj b
    obtain ⟨a2, a3⟩ := Prod.mk.inj a1
    obtain ⟨a4, _⟩ := Prod.mk.inj a3
    exact congrArg some (Prod.ext a2 (Prod.ext a4 b1))
end Hd

set_option Elab.async false
set_option linter.all false
set_option maxRecDepth 100000
set_option maxHeartbeats 2000000
section
open PySem PySem.Spec L2
namespace Hh
def top (i : Nat) : Stmt := PySem.Challenge.pw_rungworks_k35_refused.main.body.getD i (.Pass ⟨0, 0, 0, 0⟩)
abbrev sSIGNS : Str := "abcdefghijklmnopqrstuvwxyz"
def keptL : List Str := ["on", "off", "and", "or", "not", "set", "reset", "timer", "counter", "inputs", "outputs"]
def keptV : List V := keptL.map V.str
def facts0 (K : PySem.W.Frag) : List Bool := [Hd.gB K "law" (He.ga K "law"),
  Hd.errB K "LadderError" (He.ga K "LadderError"),
  Hd.excB K "NoName" (He.ga K "NoName") (He.ga K "LadderError"),
  Hd.excB K "NoPart" (He.ga K "NoPart") (He.ga K "LadderError"),
  Hd.excB K "NoEnd" (He.ga K "NoEnd") (He.ga K "LadderError"),
  Hd.excB K "NoLadder" (He.ga K "NoLadder") (He.ga K "LadderError"),
  Hd.excB K "NoText" (He.ga K "NoText") (He.ga K "LadderError"),
  Hd.excB K "NoRow" (He.ga K "NoRow") (He.ga K "LadderError"),
  Hd.excB K "NoSheet" (He.ga K "NoSheet") (He.ga K "LadderError"),
  Hd.excB K "NoState" (He.ga K "NoState") (He.ga K "LadderError"),
  Hd.excB K "NoMatch" (He.ga K "NoMatch") (He.ga K "LadderError"),
  Hd.excB K "TooMany" (He.ga K "TooMany") (He.ga K "LadderError"),
  decide ([(He.ga K "LadderError"), (He.ga K "NoName"), (He.ga K "NoPart"), (He.ga K "NoEnd"), (He.ga K "NoLadder"), (He.ga K "NoText"), (He.ga K "NoRow"), (He.ga K "NoSheet"), (He.ga K "NoState"), (He.ga K "NoMatch"), (He.ga K "TooMany")].Nodup),
  Hd.clsB K "Sheet" (He.ga K "Sheet"),
  Hd.naB K (He.ga K "Sheet") "names",
  Hd.naB K (He.ga K "Sheet") "nodes",
  Hd.naB K (He.ga K "Sheet") "numbers",
  Hd.metB K (He.ga K "Sheet") "place",
  Hd.metB K (He.ga K "Sheet") "made",
  Hd.metB K (He.ga K "Sheet") "below",
  Hd.metB K (He.ga K "Sheet") "joined",
  Hd.conB K "MOST_NODES" (.int 2000),
  Hd.noB K "len",
  Hd.noB K "min",
  Hd.metB K (He.ga K "Sheet") "opposite",
  Hd.clsB K "Fixed" (He.ga K "Fixed"),
  Hd.clsB K "Contact" (He.ga K "Contact"),
  Hd.clsB K "Turned" (He.ga K "Turned"),
  Hd.clsB K "Series" (He.ga K "Series"),
  Hd.clsB K "Branch" (He.ga K "Branch"),
  decide ([(He.ga K "Fixed"), (He.ga K "Contact"), (He.ga K "Turned"), (He.ga K "Series"), (He.ga K "Branch")].Nodup),
  Hd.naB K (He.ga K "Fixed") "value",
  Hd.naB K (He.ga K "Contact") "name",
  Hd.naB K (He.ga K "Turned") "part",
  Hd.naB K (He.ga K "Series") "parts",
  Hd.naB K (He.ga K "Branch") "parts",
  Hd.metB K (He.ga K "Fixed") "inner",
  Hd.metB K (He.ga K "Contact") "inner",
  Hd.metB K (He.ga K "Turned") "inner",
  Hd.metB K (He.ga K "Series") "inner",
  Hd.metB K (He.ga K "Branch") "inner",
  Hd.metB K (He.ga K "Fixed") "size",
  Hd.metB K (He.ga K "Contact") "size",
  Hd.metB K (He.ga K "Turned") "size",
  Hd.metB K (He.ga K "Series") "size",
  Hd.metB K (He.ga K "Branch") "size",
  Hd.metB K (He.ga K "Fixed") "depth",
  Hd.metB K (He.ga K "Contact") "depth",
  Hd.metB K (He.ga K "Turned") "depth",
  Hd.metB K (He.ga K "Series") "depth",
  Hd.metB K (He.ga K "Branch") "depth",
  Hd.metB K (He.ga K "Turned") "bounded",
  Hd.metB K (He.ga K "Series") "bounded",
  Hd.metB K (He.ga K "Branch") "bounded",
  Hd.noB K "sum",
  Hd.noB K "max",
  Hd.noB K "tuple",
  Hd.conB K "MOST_SIZE" (.int 60),
  Hd.conB K "MOST_DEEP" (.int 20),
  Hd.oneB K (He.ga K "Fixed") (He.ga K "Fixed") true,
  Hd.oneB K (He.ga K "Fixed") (He.ga K "Contact") false,
  Hd.oneB K (He.ga K "Fixed") (He.ga K "Turned") false,
  Hd.oneB K (He.ga K "Fixed") (He.ga K "Series") false,
  Hd.oneB K (He.ga K "Contact") (He.ga K "Fixed") false,
  Hd.oneB K (He.ga K "Contact") (He.ga K "Contact") true,
  Hd.oneB K (He.ga K "Contact") (He.ga K "Turned") false,
  Hd.oneB K (He.ga K "Contact") (He.ga K "Series") false,
  Hd.oneB K (He.ga K "Turned") (He.ga K "Fixed") false,
  Hd.oneB K (He.ga K "Turned") (He.ga K "Contact") false,
  Hd.oneB K (He.ga K "Turned") (He.ga K "Turned") true,
  Hd.oneB K (He.ga K "Turned") (He.ga K "Series") false,
  Hd.oneB K (He.ga K "Series") (He.ga K "Fixed") false,
  Hd.oneB K (He.ga K "Series") (He.ga K "Contact") false,
  Hd.oneB K (He.ga K "Series") (He.ga K "Turned") false,
  Hd.oneB K (He.ga K "Series") (He.ga K "Series") true,
  Hd.oneB K (He.ga K "Branch") (He.ga K "Fixed") false,
  Hd.oneB K (He.ga K "Branch") (He.ga K "Contact") false,
  Hd.oneB K (He.ga K "Branch") (He.ga K "Turned") false,
  Hd.oneB K (He.ga K "Branch") (He.ga K "Series") false,
  Hd.metB K (He.ga K "Sheet") "drawn",
  Hd.noB K "isinstance",
  Hd.noB K "int",
  Hd.gB K "is_word" (He.ga K "is_word"),
  Hd.gB K "is_name" (He.ga K "is_name"),
  Hd.conB K "SIGNS" (.str sSIGNS),
  Hd.conB K "MOST_SIGNS" (.int 8),
  Hd.tupB K "KEPT" keptV,
  Hd.metB K (He.ga K "Fixed") "gather",
  Hd.metB K (He.ga K "Contact") "gather",
  Hd.metB K (He.ga K "Turned") "gather",
  Hd.metB K (He.ga K "Series") "gather",
  Hd.metB K (He.ga K "Branch") "gather",
  Hd.metB K (He.ga K "Fixed") "contacts",
  Hd.metB K (He.ga K "Contact") "contacts",
  Hd.metB K (He.ga K "Turned") "contacts",
  Hd.metB K (He.ga K "Series") "contacts",
  Hd.metB K (He.ga K "Branch") "contacts",
  Hd.metB K (He.ga K "Sheet") "__init__",
  Hd.metB K (He.ga K "Sheet") "need",
  Hd.metB K (He.ga K "Sheet") "node",
  Hd.conB K "MOST_NAMES" (.int 60),
  Hd.noB K "set",
  Hd.noB K "bool",
  Hd.metB K (He.ga K "Sheet") "shown",
  Hd.metB K (He.ga K "Sheet") "row",
  Hd.metB K (He.ga K "Sheet") "counted",
  Hd.metB K (He.ga K "Sheet") "ways",
  Hd.metB K (He.ga K "Sheet") "of_two",
  Hd.metB K (He.ga K "Sheet") "both",
  Hd.metB K (He.ga K "Sheet") "either",
  Hd.metB K (He.ga K "Sheet") "turned",
  Hd.gB K "_law_class" (He.ga K "_law_class"),
  Hd.gB K "_law_made" (He.ga K "_law_made"),
  Hd.gB K "_law_asked" (He.ga K "_law_asked"),
  Hd.gB K "_law_drawn" (He.ga K "_law_drawn"),
  Hd.noB K "ValueError",
  Hd.gB K "_law_spoilt" (He.ga K "_law_spoilt"),
  Hd.noB K "list",
  Hd.gB K "_law_cell_at" (He.ga K "_law_cell_at"),
  Hd.gB K "_law_mixed" (He.ga K "_law_mixed"),
  Hd.gB K "_law_word" (He.ga K "_law_word"),
  Hd.gB K "_law_names" (He.ga K "_law_names"),
  Hd.noB K "range",
  Hd.metB K (He.ga K "Fixed") "__init__",
  Hd.metB K (He.ga K "Contact") "__init__",
  Hd.metB K (He.ga K "Turned") "__init__",
  Hd.metB K (He.ga K "Series") "__init__",
  Hd.metB K (He.ga K "Branch") "__init__"]
def facts : PySem.W.Frag → List Bool := facts0
def defs0 : List He5.DefA := [Hd.dA (fun K => He.ga K "law") "law" "law" (top 44),
  Hd.dA (fun K => He.ma K (He.ga K "Sheet") "place") "place" "Sheet.place" (inClass (top 33) 1),
  Hd.dA (fun K => He.ma K (He.ga K "Sheet") "made") "made" "Sheet.made" (inClass (top 33) 2),
  Hd.dA (fun K => He.ma K (He.ga K "Sheet") "below") "below" "Sheet.below" (inClass (top 33) 3),
  Hd.dA (fun K => He.ma K (He.ga K "Sheet") "joined") "joined" "Sheet.joined" (inClass (top 33) 5),
  Hd.dA (fun K => He.ma K (He.ga K "Sheet") "opposite") "opposite" "Sheet.opposite" (inClass (top 33) 6),
  Hd.dA (fun K => He.ma K (He.ga K "Fixed") "inner") "inner" "Part.inner" (inClass (top 22) 0),
  Hd.dA (fun K => He.ma K (He.ga K "Contact") "inner") "inner" "Part.inner" (inClass (top 22) 0),
  Hd.dA (fun K => He.ma K (He.ga K "Turned") "inner") "inner" "Turned.inner" (inClass (top 25) 1),
  Hd.dA (fun K => He.ma K (He.ga K "Series") "inner") "inner" "Group.inner" (inClass (top 26) 1),
  Hd.dA (fun K => He.ma K (He.ga K "Branch") "inner") "inner" "Group.inner" (inClass (top 26) 1),
  Hd.dA (fun K => He.ma K (He.ga K "Fixed") "size") "size" "Part.size" (inClass (top 22) 4),
  Hd.dA (fun K => He.ma K (He.ga K "Contact") "size") "size" "Part.size" (inClass (top 22) 4),
  Hd.dA (fun K => He.ma K (He.ga K "Turned") "size") "size" "Part.size" (inClass (top 22) 4),
  Hd.dA (fun K => He.ma K (He.ga K "Series") "size") "size" "Part.size" (inClass (top 22) 4),
  Hd.dA (fun K => He.ma K (He.ga K "Branch") "size") "size" "Part.size" (inClass (top 22) 4),
  Hd.dA (fun K => He.ma K (He.ga K "Fixed") "depth") "depth" "Part.depth" (inClass (top 22) 5),
  Hd.dA (fun K => He.ma K (He.ga K "Contact") "depth") "depth" "Part.depth" (inClass (top 22) 5),
  Hd.dA (fun K => He.ma K (He.ga K "Turned") "depth") "depth" "Part.depth" (inClass (top 22) 5),
  Hd.dA (fun K => He.ma K (He.ga K "Series") "depth") "depth" "Part.depth" (inClass (top 22) 5),
  Hd.dA (fun K => He.ma K (He.ga K "Branch") "depth") "depth" "Part.depth" (inClass (top 22) 5),
  Hd.dA (fun K => He.ma K (He.ga K "Turned") "bounded") "bounded" "Part.bounded" (inClass (top 22) 8),
  Hd.dA (fun K => He.ma K (He.ga K "Series") "bounded") "bounded" "Part.bounded" (inClass (top 22) 8),
  Hd.dA (fun K => He.ma K (He.ga K "Branch") "bounded") "bounded" "Part.bounded" (inClass (top 22) 8),
  Hd.dA (fun K => He.ma K (He.ga K "Sheet") "drawn") "drawn" "Sheet.drawn" (inClass (top 33) 7),
  Hd.dA (fun K => He.ga K "is_word") "is_word" "is_word" (top 17),
  Hd.dA (fun K => He.ga K "is_name") "is_name" "is_name" (top 18),
  Hd.dA (fun K => He.ma K (He.ga K "Fixed") "gather") "gather" "Part.gather" (inClass (top 22) 6),
  Hd.dA (fun K => He.ma K (He.ga K "Contact") "gather") "gather" "Contact.gather" (inClass (top 24) 4),
  Hd.dA (fun K => He.ma K (He.ga K "Turned") "gather") "gather" "Part.gather" (inClass (top 22) 6),
  Hd.dA (fun K => He.ma K (He.ga K "Series") "gather") "gather" "Part.gather" (inClass (top 22) 6),
  Hd.dA (fun K => He.ma K (He.ga K "Branch") "gather") "gather" "Part.gather" (inClass (top 22) 6),
  Hd.dA (fun K => He.ma K (He.ga K "Fixed") "contacts") "contacts" "Part.contacts" (inClass (top 22) 7),
  Hd.dA (fun K => He.ma K (He.ga K "Contact") "contacts") "contacts" "Part.contacts" (inClass (top 22) 7),
  Hd.dA (fun K => He.ma K (He.ga K "Turned") "contacts") "contacts" "Part.contacts" (inClass (top 22) 7),
  Hd.dA (fun K => He.ma K (He.ga K "Series") "contacts") "contacts" "Part.contacts" (inClass (top 22) 7),
  Hd.dA (fun K => He.ma K (He.ga K "Branch") "contacts") "contacts" "Part.contacts" (inClass (top 22) 7),
  Hd.dA (fun K => He.ma K (He.ga K "Sheet") "__init__") "__init__" "Sheet.__init__" (inClass (top 33) 0),
  Hd.dA (fun K => He.ma K (He.ga K "Sheet") "need") "need" "Sheet.need" (inClass (top 33) 8),
  Hd.dA (fun K => He.ma K (He.ga K "Sheet") "node") "node" "Sheet.node" (inClass (top 33) 9),
  Hd.dA (fun K => He.ma K (He.ga K "Sheet") "shown") "shown" "Sheet.shown" (inClass (top 33) 14),
  Hd.dA (fun K => He.ma K (He.ga K "Sheet") "row") "row" "Sheet.row" (inClass (top 33) 15),
  Hd.dA (fun K => He.ma K (He.ga K "Sheet") "counted") "counted" "Sheet.counted" (inClass (top 33) 16),
  Hd.dA (fun K => He.ma K (He.ga K "Sheet") "ways") "ways" "Sheet.ways" (inClass (top 33) 17),
  Hd.dA (fun K => He.ma K (He.ga K "Sheet") "of_two") "of_two" "Sheet.of_two" (inClass (top 33) 10),
  Hd.dA (fun K => He.ma K (He.ga K "Sheet") "both") "both" "Sheet.both" (inClass (top 33) 11),
  Hd.dA (fun K => He.ma K (He.ga K "Sheet") "either") "either" "Sheet.either" (inClass (top 33) 12),
  Hd.dA (fun K => He.ma K (He.ga K "Sheet") "turned") "turned" "Sheet.turned" (inClass (top 33) 13),
  Hd.dA (fun K => He.ga K "_law_class") "_law_class" "_law_class" (top 39),
  Hd.dA (fun K => He.ga K "_law_made") "_law_made" "_law_made" (top 40),
  Hd.dA (fun K => He.ga K "_law_asked") "_law_asked" "_law_asked" (top 41),
  Hd.dA (fun K => He.ga K "_law_drawn") "_law_drawn" "_law_drawn" (top 42),
  Hd.dA (fun K => He.ga K "_law_spoilt") "_law_spoilt" "_law_spoilt" (top 43),
  Hd.dA (fun K => He.ga K "_law_cell_at") "_law_cell_at" "_law_cell_at" (top 35),
  Hd.dA (fun K => He.ga K "_law_mixed") "_law_mixed" "_law_mixed" (top 36),
  Hd.dA (fun K => He.ga K "_law_word") "_law_word" "_law_word" (top 37),
  Hd.dA (fun K => He.ga K "_law_names") "_law_names" "_law_names" (top 38),
  Hd.dA (fun K => He.ma K (He.ga K "Fixed") "__init__") "__init__" "Fixed.__init__" (inClass (top 23) 0),
  Hd.dA (fun K => He.ma K (He.ga K "Contact") "__init__") "__init__" "Contact.__init__" (inClass (top 24) 0),
  Hd.dA (fun K => He.ma K (He.ga K "Turned") "__init__") "__init__" "Turned.__init__" (inClass (top 25) 0),
  Hd.dA (fun K => He.ma K (He.ga K "Series") "__init__") "__init__" "Group.__init__" (inClass (top 26) 0),
  Hd.dA (fun K => He.ma K (He.ga K "Branch") "__init__") "__init__" "Group.__init__" (inClass (top 26) 0)]
def defs : List He5.DefA := defs0
def names0 : List PySem.Str := ["_wall", "LadderError", "NoName", "NoPart", "NoEnd", "NoLadder", "NoText", "NoRow", "NoSheet", "NoState", "NoMatch", "TooMany", "SIGNS", "MOST_SIGNS", "KEPT", "is_word"]
def names1 : List PySem.Str := ["is_name", "MOST_SIZE", "MOST_DEEP", "Part", "Fixed", "Contact", "Turned", "Group", "Series", "Branch", "bracketed", "MOST_NAMES", "MOST_NODES", "Sheet", "_law_cell_at", "_law_mixed"]
def names2 : List PySem.Str := ["_law_word", "_law_names", "_law_class", "_law_made", "_law_asked", "_law_drawn", "_law_spoilt"]
def names : List PySem.Str := names0 ++ names1 ++ names2
def addrs0 : List Nat := [nat_lit 3, nat_lit 6, nat_lit 4, nat_lit 21, nat_lit 31, nat_lit 44, nat_lit 56, nat_lit 68, nat_lit 80, nat_lit 92, nat_lit 104, nat_lit 116, nat_lit 128, nat_lit 140, nat_lit 152, nat_lit 155, nat_lit 162, nat_lit 169, nat_lit 238, nat_lit 280, nat_lit 327, nat_lit 374, nat_lit 426, nat_lit 450, nat_lit 481, nat_lit 490, nat_lit 626, nat_lit 637, nat_lit 644, nat_lit 651, nat_lit 658, nat_lit 665, nat_lit 672, nat_lit 679, nat_lit 686, nat_lit 691, nat_lit 696, nat_lit 0, nat_lit 20, nat_lit 30]
def addrs1 : List Nat := [nat_lit 43, nat_lit 55, nat_lit 67, nat_lit 79, nat_lit 91, nat_lit 103, nat_lit 115, nat_lit 127, nat_lit 139, nat_lit 151, nat_lit 161, nat_lit 168, nat_lit 237, nat_lit 279, nat_lit 326, nat_lit 373, nat_lit 425, nat_lit 449, nat_lit 480, nat_lit 489, nat_lit 625, nat_lit 636, nat_lit 643, nat_lit 650, nat_lit 657, nat_lit 664, nat_lit 671, nat_lit 678, nat_lit 685, nat_lit 690, nat_lit 695, nat_lit 15, nat_lit 16, nat_lit 17, nat_lit 18, nat_lit 19, nat_lit 29, nat_lit 32, nat_lit 42, nat_lit 54]
def addrs2 : List Nat := [nat_lit 66, nat_lit 78, nat_lit 90, nat_lit 102, nat_lit 114, nat_lit 126, nat_lit 138, nat_lit 150, nat_lit 156, nat_lit 157, nat_lit 158, nat_lit 159, nat_lit 160, nat_lit 163, nat_lit 164, nat_lit 165, nat_lit 166, nat_lit 167, nat_lit 183, nat_lit 190, nat_lit 197, nat_lit 204, nat_lit 209, nat_lit 214, nat_lit 221, nat_lit 228, nat_lit 235, nat_lit 236, nat_lit 239, nat_lit 240, nat_lit 256, nat_lit 263, nat_lit 270, nat_lit 277, nat_lit 278, nat_lit 296, nat_lit 303, nat_lit 310, nat_lit 317, nat_lit 324]
def addrs3 : List Nat := [nat_lit 325, nat_lit 343, nat_lit 350, nat_lit 357, nat_lit 364, nat_lit 371, nat_lit 372, nat_lit 390, nat_lit 397, nat_lit 404, nat_lit 411, nat_lit 418, nat_lit 423, nat_lit 424, nat_lit 440, nat_lit 447, nat_lit 448, nat_lit 464, nat_lit 471, nat_lit 478, nat_lit 479, nat_lit 484, nat_lit 485, nat_lit 486, nat_lit 487, nat_lit 488, nat_lit 504, nat_lit 511, nat_lit 518, nat_lit 525, nat_lit 532, nat_lit 539, nat_lit 546, nat_lit 553, nat_lit 560, nat_lit 567, nat_lit 574, nat_lit 581, nat_lit 588, nat_lit 595]
def addrs4 : List Nat := [nat_lit 602, nat_lit 609, nat_lit 616, nat_lit 623, nat_lit 624, nat_lit 627, nat_lit 628, nat_lit 631, nat_lit 632, nat_lit 633, nat_lit 634, nat_lit 635, nat_lit 638, nat_lit 639, nat_lit 640, nat_lit 641, nat_lit 642, nat_lit 645, nat_lit 646, nat_lit 647, nat_lit 648, nat_lit 649, nat_lit 652, nat_lit 653, nat_lit 654, nat_lit 655, nat_lit 656, nat_lit 659, nat_lit 660, nat_lit 661, nat_lit 662, nat_lit 663, nat_lit 666, nat_lit 667, nat_lit 668, nat_lit 669, nat_lit 670, nat_lit 673, nat_lit 674, nat_lit 675]
def addrs5 : List Nat := [nat_lit 676, nat_lit 677, nat_lit 680, nat_lit 681, nat_lit 682, nat_lit 683, nat_lit 684, nat_lit 687, nat_lit 688, nat_lit 689, nat_lit 692, nat_lit 693, nat_lit 694, nat_lit 182, nat_lit 189, nat_lit 196, nat_lit 203, nat_lit 208, nat_lit 213, nat_lit 220, nat_lit 227, nat_lit 234, nat_lit 255, nat_lit 262, nat_lit 269, nat_lit 276, nat_lit 295, nat_lit 302, nat_lit 309, nat_lit 316, nat_lit 323, nat_lit 342, nat_lit 349, nat_lit 356, nat_lit 363, nat_lit 370, nat_lit 389, nat_lit 396, nat_lit 403, nat_lit 410]
def addrs6 : List Nat := [nat_lit 417, nat_lit 422, nat_lit 439, nat_lit 446, nat_lit 463, nat_lit 470, nat_lit 477, nat_lit 503, nat_lit 510, nat_lit 517, nat_lit 524, nat_lit 531, nat_lit 538, nat_lit 545, nat_lit 552, nat_lit 559, nat_lit 566, nat_lit 573, nat_lit 580, nat_lit 587, nat_lit 594, nat_lit 601, nat_lit 608, nat_lit 615, nat_lit 622, nat_lit 177, nat_lit 178, nat_lit 179, nat_lit 180, nat_lit 181, nat_lit 184, nat_lit 185, nat_lit 186, nat_lit 187, nat_lit 188, nat_lit 191, nat_lit 192, nat_lit 193, nat_lit 194, nat_lit 195]
def addrs7 : List Nat := [nat_lit 198, nat_lit 199, nat_lit 200, nat_lit 201, nat_lit 202, nat_lit 205, nat_lit 206, nat_lit 207, nat_lit 210, nat_lit 211, nat_lit 212, nat_lit 215, nat_lit 216, nat_lit 217, nat_lit 218, nat_lit 219, nat_lit 222, nat_lit 223, nat_lit 224, nat_lit 225, nat_lit 226, nat_lit 229, nat_lit 230, nat_lit 231, nat_lit 232, nat_lit 233, nat_lit 250, nat_lit 251, nat_lit 252, nat_lit 253, nat_lit 254, nat_lit 257, nat_lit 258, nat_lit 259, nat_lit 260, nat_lit 261, nat_lit 264, nat_lit 265, nat_lit 266, nat_lit 267]
def addrs8 : List Nat := [nat_lit 268, nat_lit 271, nat_lit 272, nat_lit 273, nat_lit 274, nat_lit 275, nat_lit 290, nat_lit 291, nat_lit 292, nat_lit 293, nat_lit 294, nat_lit 297, nat_lit 298, nat_lit 299, nat_lit 300, nat_lit 301, nat_lit 304, nat_lit 305, nat_lit 306, nat_lit 307, nat_lit 308, nat_lit 311, nat_lit 312, nat_lit 313, nat_lit 314, nat_lit 315, nat_lit 318, nat_lit 319, nat_lit 320, nat_lit 321, nat_lit 322, nat_lit 337, nat_lit 338, nat_lit 339, nat_lit 340, nat_lit 341, nat_lit 344, nat_lit 345, nat_lit 346, nat_lit 347]
def addrs9 : List Nat := [nat_lit 348, nat_lit 351, nat_lit 352, nat_lit 353, nat_lit 354, nat_lit 355, nat_lit 358, nat_lit 359, nat_lit 360, nat_lit 361, nat_lit 362, nat_lit 365, nat_lit 366, nat_lit 367, nat_lit 368, nat_lit 369, nat_lit 384, nat_lit 385, nat_lit 386, nat_lit 387, nat_lit 388, nat_lit 391, nat_lit 392, nat_lit 393, nat_lit 394, nat_lit 395, nat_lit 398, nat_lit 399, nat_lit 400, nat_lit 401, nat_lit 402, nat_lit 405, nat_lit 406, nat_lit 407, nat_lit 408, nat_lit 409, nat_lit 412, nat_lit 413, nat_lit 414, nat_lit 415]
def addrs10 : List Nat := [nat_lit 416, nat_lit 419, nat_lit 420, nat_lit 421, nat_lit 436, nat_lit 437, nat_lit 438, nat_lit 441, nat_lit 442, nat_lit 443, nat_lit 444, nat_lit 445, nat_lit 460, nat_lit 461, nat_lit 462, nat_lit 465, nat_lit 466, nat_lit 467, nat_lit 468, nat_lit 469, nat_lit 472, nat_lit 473, nat_lit 474, nat_lit 475, nat_lit 476, nat_lit 498, nat_lit 499, nat_lit 500, nat_lit 501, nat_lit 502, nat_lit 505, nat_lit 506, nat_lit 507, nat_lit 508, nat_lit 509, nat_lit 512, nat_lit 513, nat_lit 514, nat_lit 515, nat_lit 516]
def addrs11 : List Nat := [nat_lit 519, nat_lit 520, nat_lit 521, nat_lit 522, nat_lit 523, nat_lit 526, nat_lit 527, nat_lit 528, nat_lit 529, nat_lit 530, nat_lit 533, nat_lit 534, nat_lit 535, nat_lit 536, nat_lit 537, nat_lit 540, nat_lit 541, nat_lit 542, nat_lit 543, nat_lit 544, nat_lit 547, nat_lit 548, nat_lit 549, nat_lit 550, nat_lit 551, nat_lit 554, nat_lit 555, nat_lit 556, nat_lit 557, nat_lit 558, nat_lit 561, nat_lit 562, nat_lit 563, nat_lit 564, nat_lit 565, nat_lit 568, nat_lit 569, nat_lit 570, nat_lit 571, nat_lit 572]
def addrs12 : List Nat := [nat_lit 575, nat_lit 576, nat_lit 577, nat_lit 578, nat_lit 579, nat_lit 582, nat_lit 583, nat_lit 584, nat_lit 585, nat_lit 586, nat_lit 589, nat_lit 590, nat_lit 591, nat_lit 592, nat_lit 593, nat_lit 596, nat_lit 597, nat_lit 598, nat_lit 599, nat_lit 600, nat_lit 603, nat_lit 604, nat_lit 605, nat_lit 606, nat_lit 607, nat_lit 610, nat_lit 611, nat_lit 612, nat_lit 613, nat_lit 614, nat_lit 617, nat_lit 618, nat_lit 619, nat_lit 620, nat_lit 621, nat_lit 2]
/-- the objects that the module's names reach -/
def addrs : List Nat := addrs0 ++ addrs1 ++ addrs2 ++ addrs3 ++ addrs4 ++ addrs5 ++ addrs6 ++ addrs7 ++ addrs8 ++ addrs9 ++ addrs10 ++ addrs11 ++ addrs12
abbrev hk : PySem.W.Hook := Hd.hook addrs facts defs
def ob (s : PySem.W.SharedT) : He.AlD := Hd.seenG addrs facts defs (HandSHeadRun.getT s)
theorem ob_eq (s : PySem.W.SharedT) : ob s = hk.obs s.abs := Hd.seenG_eq (HandSHeadRun.getT_eq s)
abbrev row : PySem.W.OpenRow := PySem.W.OpenLaw.row PySem.Challenge.rw_rungworks_k35_refused
set_option maxHeartbeats 0 in
theorem run_looks (w : World) : HandSHeadRun.RunEq row (PySem.W.view row.prog [44]) PySem.W.Hook.none (fun _ => ()) 9000 names w := by
  intro os
  kernel_rfl
set_option maxHeartbeats 0 in
theorem run_0 (w : World) : Hd.Part row 9000 addrs facts0 defs0 w := by
  intro os
  kernel_rfl
theorem run (w : World) : HandSHeadRun.RunEq row (PySem.W.view row.prog [44]) hk ob 9000 names w :=
  Hd.run_of (run_looks w) (run_0 w)
end Hh
end

set_option Elab.async false
set_option linter.all false
set_option maxRecDepth 100000
set_option maxHeartbeats 2000000
namespace Ru
open PySem PySem.Spec PyProof.Rows L2

/-! ## a def of the module as a caller sees it -/
/-- the def called x is the module's, with body st -/
structure DefAt (K : PySem.W.Frag) (mg : Str → Option Value) (x : Str) (st : Stmt) (ps : List Str) : Prop where
  ex : ∃ f fd, mg x = some (.ref f) ∧ Fun K x x st f fd ∧ Binds K fd ps []
/-- the def called x keeps the promise sp -/
structure FnAt (P : Program) (w : World) (K : PySem.W.Frag) (mg : Str → Option Value) (base : Heap) (cx : CXT) (x : Str) (k : Nat) (ps : List Str) (sp : Sp) : Prop where
  ex : ∃ f fd, mg x = some (.ref f) ∧ PySem.W.keepIn K (.ref f) = true ∧ Binds K fd ps [] ∧ FnOk P w K mg base cx k f fd ps sp
theorem FnAt.mono {P : Program} {w : World} {K : PySem.W.Frag} {mg : Str → Option Value} {base : Heap} {cx : CXT} {x : Str} {j k : Nat} {ps : List Str} {sp : Sp} (F : FnAt P w K mg base cx x j ps sp) (h : j ≤ k) : FnAt P w K mg base cx x k ps sp := by
  obtain ⟨f, fd, h1, h2, h3, h4⟩ := F.ex
  exact ⟨f, fd, h1, h2, h3, h4.mono h⟩
theorem FnAt.imp {P : Program} {w : World} {K : PySem.W.Frag} {mg : Str → Option Value} {base : Heap} {cx : CXT} {x : Str} {k : Nat} {ps : List Str} {sp sp' : Sp} (F : FnAt P w K mg base cx x k ps sp) (h : ∀ vs H Q E, sp' vs H Q E → sp vs H Q E) : FnAt P w K mg base cx x k ps sp' := by
  obtain ⟨f, fd, h1, h2, h3, h4⟩ := F.ex
  exact ⟨f, fd, h1, h2, h3, h4.imp h⟩
section
variable {P : Program} {w : World} {K : PySem.W.Frag} {mg : Str → Option Value} {base : Heap}
theorem fnAt_ok {x : Str} {st : Stmt} {N ps : List Str} {k : Nat} {sp : Sp} (D : DefAt K mg x st ps) (S : FnScope N ps (defScope st)) (len : ∀ vs H Q E, sp vs H Q E → vs.length = ps.length)
    (hbody : ∀ (f : Addr) (cdv : Value) (A : Around) (outer : List Env) (s : Shared) (H : Hp) (vs : List V) (Q : VK) (E : XK), Room k (A.deeper (envOfC x (defScope st) s.heap.objs.size f cdv)) → sp vs H Q E →
      ∃ t, PSs (cxOf CX0 P w K mg base N x (defScope st) f cdv A outer s H E).nox (defBody st) t ∧ t { nx := fun _ H' => Q .non H', rt := Q } (start N vs) H) : FnAt P w K mg base CX0 x (k + 1) ps sp := by
  obtain ⟨f, fd, h1, h2, h3⟩ := D.ex
  exact ⟨f, fd, h1, h2.kp, h3, h2.ok S len (hbody f)⟩
theorem defAt_mk {h : Heap} {x : Str} {st : Stmt} {ps : List Str} {f : Addr} {oc : Value} {od an : Option Addr} {osl : Array (Option Value)} {kV doc pm cdv ct : Value} (X : K.In h) (G : h.Ns mainGlobals mg)
    (a : PySem.W.nsIn K mainGlobals x = some (some (.ref f))) (l : K.lookup f = some ⟨oc, od, .func (PySem.W.fnOf x x (defArgs st) (defBody st) (defScope st) .none kV doc pm an cdv ct), osl⟩)
    (c : PySem.W.codeIn K cdv x = true) (k : PySem.W.keepIn K (.ref f) = true)
    (b : ∀ us : List Value, us.length = ps.length → bindArgs (PySem.W.fnOf x x (defArgs st) (defBody st) (defScope st) .none kV doc pm an cdv ct) ⟨us, []⟩ = pure (ps.zip us)) : DefAt K mg x st ps :=
  ⟨f, _, PySem.W.mg_of X G a, fun_mk l c k, .all b⟩
end
section
variable {X : Cx} {cx : CXT} {j k : Nat} {ps : List Str} {sp : Sp} {E : XK} {x : Str} {p pos : Pos} {e : Expr} {es : List Expr} {t : TA}
theorem pe_callF (F : FnAt X.prog X.w X.K X.mg X.base cx x k ps sp) (hr : Room j X.A) (hx : Passes cx X E) (ha : PA X (e :: es) t) (hj : k ≤ j := by decide) (hg : Gl X x := by rfl)
    (hdb : (x == ("__debug__" : Str)) = false := by decide) (he : starEach (e :: es) X.env = (false, eval e X.env) :: starEach es X.env := by rfl) (hpl : (backTo pos (starEach es X.env)).any (·.1) = false := by rfl) :
    PE X (.Call (.Name x p) (e :: es) [] pos) (tCall sp [] E t) := by
  obtain ⟨f, fd, h1, h2, h3, h4⟩ := F.ex
  exact pe_call h4 (hr.mono hj) hg h1 h2 h3 .nil hx ha hdb he hpl
theorem pe_callF0 (F : FnAt X.prog X.w X.K X.mg X.base cx x k ps sp) (hr : Room j X.A) (hx : Passes cx X E) (hj : k ≤ j := by decide) (hg : Gl X x := by rfl)
    (hdb : (x == ("__debug__" : Str)) = false := by decide) : PE X (.Call (.Name x p) [] [] pos) (tCall sp [] E tNil) := by
  obtain ⟨f, fd, h1, h2, h3, h4⟩ := F.ex
  exact pe_call0 h4 (hr.mono hj) hg h1 h2 h3 .nil hx hdb
end

/-! ## constants of the module -/
/-- the module's name x holds the value v -/
def GlobC (mg : Str → Option Value) (x : Str) (v : V) : Prop := ∃ u, mg x = some u ∧ RelV v u
theorem pe_gc {X : Cx} {x : Str} {v : V} {pos : Pos} (h : GlobC X.mg x v) (hg : Gl X x := by rfl) (hd : (x == ("__debug__" : Str)) = false := by decide) : PE X (.Name x pos) (tC v) := by
  obtain ⟨u, h1, h2⟩ := h
  exact pe_glob hg h1 h2 hd
/-- a tuple that stands wherever one looks -/
def TupK (K : PySem.W.Frag) (a : Addr) (xs : List V) : Prop := ∀ H, SqT K H a xs
def GlobT (K : PySem.W.Frag) (mg : Str → Option Value) (x : Str) (xs : List V) : Prop := ∃ a, mg x = some (.ref a) ∧ TupK K a xs
def tGT (K : PySem.W.Frag) (xs : List V) : TE := fun _ H Q => ∀ a, TupK K a xs → Q (.ref a) H
theorem pe_gt {X : Cx} {x : Str} {xs : List V} {pos : Pos} (h : GlobT X.K X.mg x xs) (hg : Gl X x := by rfl) (hd : (x == ("__debug__" : Str)) = false := by decide) : PE X (.Name x pos) (tGT X.K xs) := by
  obtain ⟨a, h1, h2⟩ := h
  exact ⟨fun pins s σ H Q I q => (pe_glob (v := .ref a) hg h1 rfl hd).run pins s σ H Q I (q a h2)⟩
/-- what a written tuple's items are -/
def valsB : List V → List Value → Bool
  | [], [] => true
  | x :: xs, u :: us => (absV u == some x) && valsB xs us
  | _, _ => false
theorem relV_of_abs {x : V} {u : Value} (h : absV u = some x) : RelV x u := by
  cases u <;> simp [absV] at h <;> subst h <;> first | rfl | exact ⟨_, rfl⟩
theorem vals_of_B : ∀ {xs : List V} {us : List Value}, valsB xs us = true → Vals xs us
  | [], [], _ => .nil
  | x :: xs, u :: us, h => by
    unfold valsB at h
    rw [Bool.and_eq_true] at h
    exact .cons (relV_of_abs (by simpa using h.1)) (vals_of_B h.2)
  | [], _ :: _, h => by simp [valsB] at h
  | _ :: _, [], h => by simp [valsB] at h
theorem globT_mk {K : PySem.W.Frag} {mg : Str → Option Value} {h : Heap} {x : Str} {a : Addr} {n : Nat} {its : Array Value} {od : Option Addr} {sl : Array (Option Value)} {xs : List V} (X : K.In h) (G : h.Ns mainGlobals mg)
    (ha : PySem.W.nsIn K mainGlobals x = some (some (.ref a))) (l : K.lookup a = some ⟨.type "tuple", od, .seq its n, sl⟩) (hs : its.size ≤ sizeLine) (hv : Vals xs its.toList) : GlobT K mg x xs :=
  ⟨a, PySem.W.mg_of X G ha, fun _ => .inr ⟨_, its, n, l, rfl, rfl, hs, hv⟩⟩
theorem globC_mk {K : PySem.W.Frag} {mg : Str → Option Value} {h : Heap} {x : Str} {u : Value} {v : V} (X : K.In h) (G : h.Ns mainGlobals mg) (ha : PySem.W.nsIn K mainGlobals x = some (some u)) (r : RelV v u) : GlobC mg x v :=
  ⟨u, PySem.W.mg_of X G ha, r⟩

theorem pc_inK {X : Cx} {x : Str} {xs : List V} {a : Expr} {ta : TE} {pos : Pos} (h : GlobT X.K X.mg x xs) (ha : PE X a ta) (hg : Gl X x := by rfl) (hd : (x == ("__debug__" : Str)) = false := by decide) :
    PC X .In a (.Name x pos) (fun σ H Q => ta σ H fun v H1 => flatV v = true ∧ xs.all flatV = true ∧ Q (.bl (inV v xs)) H1) := by
  obtain ⟨b, h1, h2⟩ := h
  refine ⟨fun pins s σ H Q I q => ?_⟩
  refine bin (R := fun v u H2 => u = .ref b ∧ flatV v = true ∧ xs.all flatV = true ∧ Q (.bl (inV v xs)) H2) ha (pe_glob (v := .ref b) hg h1 rfl hd) I ?_ fun v u s2 x y H2 I2 rx ry q => ?_
  · refine (show ta σ H fun v H1 => (V.ref b = .ref b ∧ flatV v = true ∧ xs.all flatV = true ∧ Q (.bl (inV v xs)) H1) from ?_)
    have : (fun v H1 => flatV v = true ∧ xs.all flatV = true ∧ Q (.bl (inV v xs)) H1) = (fun (v : V) (H1 : Hp) => (V.ref b = .ref b ∧ flatV v = true ∧ xs.all flatV = true ∧ Q (.bl (inV v xs)) H1)) := by
      funext v H1
      simp
    rw [← this]
    exact q
  · obtain ⟨rfl, q1, q2, q3⟩ := q
    exact op_in_seq pins s2 σ H2 _ _ _ _ Q I2 rx ry ⟨b, xs, rfl, .inr (h2 H2), q1, q2, q3⟩
theorem pc_notInK {X : Cx} {x : Str} {xs : List V} {a : Expr} {ta : TE} {pos : Pos} (h : GlobT X.K X.mg x xs) (ha : PE X a ta) (hg : Gl X x := by rfl) (hd : (x == ("__debug__" : Str)) = false := by decide) :
    PC X .NotIn a (.Name x pos) (fun σ H Q => ta σ H fun v H1 => flatV v = true ∧ xs.all flatV = true ∧ Q (.bl (!inV v xs)) H1) := by
  obtain ⟨b, h1, h2⟩ := h
  refine ⟨fun pins s σ H Q I q => ?_⟩
  refine bin (R := fun v u H2 => u = .ref b ∧ flatV v = true ∧ xs.all flatV = true ∧ Q (.bl (!inV v xs)) H2) ha (pe_glob (v := .ref b) hg h1 rfl hd) I ?_ fun v u s2 x y H2 I2 rx ry q => ?_
  · refine (show ta σ H fun v H1 => (V.ref b = .ref b ∧ flatV v = true ∧ xs.all flatV = true ∧ Q (.bl (!inV v xs)) H1) from ?_)
    have : (fun v H1 => flatV v = true ∧ xs.all flatV = true ∧ Q (.bl (!inV v xs)) H1) = (fun (v : V) (H1 : Hp) => (V.ref b = .ref b ∧ flatV v = true ∧ xs.all flatV = true ∧ Q (.bl (!inV v xs)) H1)) := by
      funext v H1
      simp
    rw [← this]
    exact q
  · obtain ⟨rfl, q1, q2, q3⟩ := q
    exact op_notIn_seq pins s2 σ H2 _ _ _ _ Q I2 rx ry ⟨b, xs, rfl, .inr (h2 H2), q1, q2, q3⟩

/-! ## texts as lists of code points -/
def mkS (l : List Nat) : Str := ⟨l.toArray⟩
theorem mkS_len (l : List Nat) : (mkS l).length = l.length := by simp [mkS, Str.length]
theorem mkS_tl (z : Str) : mkS z.cps.toList = z := by simp [mkS]
theorem tl_mkS (l : List Nat) : (mkS l).cps.toList = l := by simp [mkS]
theorem mkS_inj {a b : List Nat} (h : mkS a = mkS b) : a = b := by rw [← tl_mkS a, ← tl_mkS b, h]
theorem mkS_app (a b : List Nat) : mkS a ++ mkS b = mkS (a ++ b) := by
  show Str.append _ _ = _
  simp [Str.append, mkS]
theorem empty_mk : ("" : Str) = mkS [] := by decide +kernel
theorem mkS_one (c : Nat) : (⟨#[c]⟩ : Str) = mkS [c] := rfl
theorem cutS_to (l : List Nat) (n : Nat) : cutS (mkS l) none (some (n : Int)) = mkS (l.take n) := by
  unfold cutS
  rw [HT.sIx_none, HT.sIx_nat, mkS_len, tl_mkS]
  show mkS _ = _
  congr 1
  rw [List.drop_zero, Nat.sub_zero]
  by_cases h : n ≤ l.length
  · rw [Nat.min_eq_left h]
  · rw [Nat.min_eq_right (by omega), List.take_of_length_le (Nat.le_refl _), List.take_of_length_le (by omega)]
theorem cutS_from (l : List Nat) (n : Nat) : cutS (mkS l) (some (n : Int)) none = mkS (l.drop n) := by
  unfold cutS
  rw [HT.sIx_none, HT.sIx_nat, mkS_len, tl_mkS]
  show mkS _ = _
  congr 1
  by_cases h : n ≤ l.length
  · rw [Nat.min_eq_left h, List.take_of_length_le (by rw [List.length_drop]; omega)]
  · rw [Nat.min_eq_right (by omega), List.drop_of_length_le (Nat.le_refl _), List.drop_of_length_le (by omega)]
    simp
theorem cutS_le (z : Str) (lo hi : Option Int) : (cutS z lo hi).length ≤ z.length := by
  unfold cutS Str.length
  simp only [List.size_toArray, List.length_take, List.length_drop, Array.length_toList]
  omega
theorem len_app (x y : Str) : (x ++ y).length = x.length + y.length := strLen_append x y
/-- the item at an int's place -/
theorem atI_int {α : Type} {xs : List α} {i : Int} {v : α} (h0 : 0 ≤ i) (h : xs[i.toNat]? = some v) : atI xs i = some v := by
  obtain ⟨n, rfl⟩ := Int.eq_ofNat_of_zero_le h0
  exact atI_nat h

theorem atI_ex {α : Type} {xs : List α} {i : Int} (h0 : 0 ≤ i) (h : i < xs.length) : ∃ v, v ∈ xs ∧ atI xs i = some v := by
  have hn : i.toNat < xs.length := by omega
  exact ⟨xs[i.toNat], List.getElem_mem hn, atI_int h0 (List.getElem?_eq_getElem hn)⟩
theorem line_ge {n : Nat} (h : n ≤ 1000000) : n ≤ sizeLine := by rw [sizeLine_eq]; omega
/-- the law's def, and how its one argument binds -/
structure LawAt (K : PySem.W.Frag) (mg : Str → Option Value) (st : Stmt) (p : Str) : Prop where
  ex : ∃ f fd, mg "law" = some (.ref f) ∧ Fun K "law" "law" st f fd ∧ ∀ u : Value, bindArgs fd ⟨[u], []⟩ = pure [(p, u)]
theorem lawAt_mk {K : PySem.W.Frag} {mg : Str → Option Value} {h : Heap} {st : Stmt} {p : Str} {f : Addr} {oc : Value} {od an : Option Addr} {osl : Array (Option Value)} {kV doc pm cdv ct : Value} (X : K.In h) (G : h.Ns mainGlobals mg)
    (a : PySem.W.nsIn K mainGlobals "law" = some (some (.ref f))) (l : K.lookup f = some ⟨oc, od, .func (PySem.W.fnOf "law" "law" (defArgs st) (defBody st) (defScope st) .none kV doc pm an cdv ct), osl⟩)
    (c : PySem.W.codeIn K cdv "law" = true) (k : PySem.W.keepIn K (.ref f) = true)
    (b : ∀ u : Value, bindArgs (PySem.W.fnOf "law" "law" (defArgs st) (defBody st) (defScope st) .none kV doc pm an cdv ct) ⟨[u], []⟩ = pure [(p, u)]) : LawAt K mg st p :=
  ⟨f, _, PySem.W.mg_of X G a, fun_mk l c k, b⟩
theorem law_end {prog : Program} {w : World} {K : PySem.W.Frag} {mg : Str → Option Value} {st : Stmt} {p : Str} {fa : Addr} {cx : CXT} {k : Nat} {sp : Sp} (L : LawAt K mg st p) (hfa : mg "law" = some (.ref fa))
    (ok : ∀ (base : Heap) (f : Addr) (fd : FuncData), Fun K "law" "law" st f fd → FnOk prog w K mg base cx k f fd [p] sp) :
    ∃ fd : FuncData, (∀ (s : Shared) (u : Value), BindsTo s fd ⟨[u], []⟩ [(p, u)]) ∧ ∀ base : Heap, K.In base → base.Ns mainGlobals mg → FnOk prog w K mg base cx k fa fd [p] sp := by
  obtain ⟨f, fd, h1, h2, h3⟩ := L.ex
  have e : f = fa := by
    have := h1.symm.trans hfa
    injection this with e
    injection e
  subst e
  exact ⟨fd, fun s u => .of_eq (h3 u), fun base _ _ => ok base f fd h2⟩
/-- what is promised of a law: True, whatever stands -/
def spLaw (K : PySem.W.Frag) : Sp := fun vs H Q _ => ∃ (a : Addr) (ns : List Int), vs = [.ref a] ∧ SqL K H a (ns.map V.int) ∧ ns.length ≤ 63 ∧ ∀ H', Q (.bl true) H'
theorem law_walk {l : PySem.W.OpenLaw} {q : Program} {loose : List Str} {XP : (Str → Option Value) → Heap → Prop} {YP : World → Heap → Prop} {d : DefRec} {K : Params → PySem.W.Frag} {cx : CXT} {k : Nat} {p : Str} (hr : Room k callerA) (hn : l.most = some 63) (hdf : d.params.defaults = [])
    (hY : ∀ (w : World) (h : Heap), YP w h → (K w.params).In h) (hcx : ∀ (H : Hp) (s : Shared) (e : Value) (s' : Shared), cx [] H s (fun _ _ _ => False) e s' → False)
    (F : ∀ (w : World) (mg : Str → Option Value) (fa : Addr) (h : Heap), (K w.params).In h → h.Ns mainGlobals mg → mg d.name = some (.ref fa) →
      ∃ fd : FuncData, (∀ (s : Shared) (u : Value), BindsTo s fd ⟨[u], []⟩ [(p, u)]) ∧ ∀ base : Heap, (K w.params).In base → base.Ns mainGlobals mg → FnOk l.prog w (K w.params) mg base cx k fa fd [p] (spLaw (K w.params))) :
    PySem.W.WalkO q loose XP YP l.row.toRowW d [] (fun f vs => PySem.call f vs) :=
  L2.walk_of (n := 63) (k := k) (x := p) (CX := fun _ => cx) (sp := fun w => spLaw (K w.params)) hn (by decide) hdf hr hY F (fun _ _ a ns hl _ hS => ⟨a, ns, rfl, hS, hl, fun _ => rfl⟩) fun _ H s e s' z => hcx H s e s' z

/-! ## isinstance of flat values and bool, int, str -/
def isBlV : V → Bool
  | .bl _ => true
  | _ => false
def isIntV : V → Bool
  | .bl _ => true
  | .int _ => true
  | _ => false
def isStrV : V → Bool
  | .str _ => true
  | _ => false
theorem scal_ii {a b : Int} : scal (.int a) (.int b) = true := rfl
theorem scal_bb {a b : Bool} : scal (.bl a) (.bl b) = true := rfl
theorem scal_ss {a b : Str} : scal (.str a) (.str b) = true := rfl
theorem scal_sb {a : Str} {b : Bool} : scal (.str a) (.bl b) = true := rfl
theorem scal_bs {a : Str} {b : Bool} : scal (.bl b) (.str a) = true := rfl
theorem flat_s {z : Str} : flatV (.str z) = true := rfl
theorem flat_i {z : Int} : flatV (.int z) = true := rfl
theorem flat_b {z : Bool} : flatV (.bl z) = true := rfl
theorem flat_n : flatV .non = true := rfl
def rIsF (n : String) (f : V → Bool) : List V → Hp → VK → Prop := fun xs H Q => ∃ x, xs = [x, .ty n] ∧ flatV x = true ∧ Q (.bl (f x)) H
theorem call_isF {X : Cx} {n : String} {f : V → Bool} (hn : kitB "NoneType" n = some (f .non)) (hb : ∀ b, kitB "bool" n = some (f (.bl b))) (hi : ∀ i, kitB "int" n = some (f (.int i))) (hs : ∀ z, kitB "str" n = some (f (.str z))) :
    CallR X (.builtin "isinstance") (rIsF n f) := by
  intro pins s σ H xs us Q I r h
  obtain ⟨x, rfl, fx, q⟩ := h
  refine call_isi pins s σ H _ us Q I r ?_
  cases x with
  | non => exact ⟨_, _, _, _, _, rfl, .ty n, .base (.non), kit_ty hn, q⟩
  | bl b => exact ⟨_, _, _, _, _, rfl, .ty n, .base (.bl b), kit_ty (hb b), q⟩
  | int i => exact ⟨_, _, _, _, _, rfl, .ty n, .base (.int i), kit_ty (hi i), q⟩
  | str z => exact ⟨_, _, _, _, _, rfl, .ty n, .base (.str z), kit_ty (hs z), q⟩
  | byt b => cases fx
  | flt b => cases fx
  | ref a => cases fx
  | ty a => cases fx
theorem call_isBool {X : Cx} : CallR X (.builtin "isinstance") (rIsF "bool" isBlV) :=
  call_isF (by decide +kernel) (fun _ => (by decide +kernel : kitB "bool" "bool" = some true)) (fun _ => (by decide +kernel : kitB "int" "bool" = some false)) fun _ => (by decide +kernel : kitB "str" "bool" = some false)
theorem call_isInt {X : Cx} : CallR X (.builtin "isinstance") (rIsF "int" isIntV) :=
  call_isF (by decide +kernel) (fun _ => (by decide +kernel : kitB "bool" "int" = some true)) (fun _ => (by decide +kernel : kitB "int" "int" = some true)) fun _ => (by decide +kernel : kitB "str" "int" = some false)

theorem Same.new {H : Hp} {p : Addr} {o : HO} (h : H p = none) : Same H (upd H p o) := fun b u e => by
  rw [upd_ne (ne_of_none e h)]
  exact e
/-- a store to what H does not know -/
theorem Same.mut {H H' : Hp} {p : Addr} {o : HO} (s : Same H H') (h : H p = none) : Same H (upd H' p o) := fun b u e => by
  rw [upd_ne (ne_of_none e h)]
  exact s b u e
theorem Same.seqT {K : PySem.W.Frag} {H H' : Hp} {a : Addr} {xs : List V} (e : Same H H') (h : SqT K H a xs) : SqT K H' a xs := by
  rcases h with (h | ⟨o, h⟩) | h
  · exact .inl (.inl (e _ _ h))
  · exact .inl (.inr ⟨o, e _ _ h⟩)
  · exact .inr h
/-- [..] == [] of an empty list -/
theorem ne_empty {K : PySem.W.Frag} {H : Hp} {a b : Addr} {Q : VK} (ha : SqL K H a []) (hb : SqL K H b []) (q : Q (.bl false) H) : rNeD K (.ref a) (.ref b) H Q :=
  ⟨.list [], .list [], .lst ha .nil, .lst hb .nil, by decide +kernel, by decide +kernel, q⟩

/-! ## one's own short ways -/
abbrev St : Type := L2.St
theorem exw {α : Type} {P : α → Prop} {a : α} (h : P a) : ∃ x, P x := ⟨a, h⟩
/-- for over a text that the body leaves as it is -/
theorem for_str {x : Str} {g : TG} {tb : TS} {D : Ends} {σ : St} {H : Hp} (Pv : Nat → St → Hp → Prop) (h0 : Pv 0 σ H)
    (hs : ∀ i c σ H, x.cps[i]? = some c → Pv i σ H → g (.str ⟨#[c]⟩) σ H fun σ2 H2 => tb { D with nx := Pv (i + 1), ct := Pv (i + 1), bk := D.nx } σ2 H2) (hd : ∀ σ H, Pv x.cps.size σ H → D.nx σ H) :
    ∃ W : Nat → Nat → St → Hp → Prop, (∃ m, W 0 m σ H) ∧ ∀ i m σ H, W i m σ H →
      ((Its x).stop i H ∧ D.nx σ H) ∨ ((Its x).go i H ∧ ∃ N : St → Hp → Prop, (∀ σ' H', N σ' H' → ∃ m', m' < m ∧ W (i + 1) m' σ' H') ∧ ∀ v H', (Its x).yld i H v H' → g v σ H' fun σ2 H2 => tb { D with nx := N, ct := N, bk := D.nx } σ2 H2) := by
  refine ⟨fun i m σ H => m = x.cps.size - i ∧ i ≤ x.cps.size ∧ Pv i σ H, ⟨x.cps.size, by simp, Nat.zero_le _, h0⟩, ?_⟩
  rintro i m σ H ⟨rfl, hi, p⟩
  by_cases hlt : i < x.cps.size
  · refine .inr ⟨hlt, Pv (i + 1), fun σ' H' p' => ⟨x.cps.size - (i + 1), by omega, rfl, hlt, p'⟩, fun v H' y => ?_⟩
    obtain ⟨e, c, hc, y⟩ := y
    subst e y
    exact hs i c σ _ hc p
  · have e : i = x.cps.size := by omega
    subst e
    exact .inl ⟨Nat.le_refl _, hd σ H p⟩
theorem gcons_eq {t : TG} {u : TGs} {v : V} {r : List V} {σ : L2.St} {H : Hp} {Q : L2.St → Hp → Prop} : gCons t u (v :: r) σ H Q ↔ t v σ H fun σ' H' => u r σ' H' Q :=
  ⟨fun ⟨_, _, e, q⟩ => by cases e; exact q, fun q => ⟨v, r, rfl, q⟩⟩
theorem gnil_eq {σ : L2.St} {H : Hp} {Q : L2.St → Hp → Prop} : gNil [] σ H Q ↔ Q σ H := ⟨fun ⟨_, q⟩ => q, fun q => ⟨rfl, q⟩⟩
theorem cxOf_K {CX : CXT} {P : Program} {w : World} {K : PySem.W.Frag} {mg : Str → Option Value} {base : Heap} {N : List Str} {q : Str} {sc : Scope} {f : Addr} {cd : Value} {A : Around} {outer : List Env} {s : Shared} {H : Hp} {E : XK} :
    (cxOf CX P w K mg base N q sc f cd A outer s H E).K = K := rfl
end Ru

set_option Elab.async false
set_option linter.all false
set_option maxRecDepth 100000
set_option maxHeartbeats 2000000
/-! objects: methods by the receiver's class, tuple(d.keys()), xs != [] of any list -/
namespace Ru
open PySem PySem.Spec PyProof.Rows L2
abbrev St' : Type := L2.St

/-! ## methods by class -/
structure DispAt (P : Program) (w : World) (K : PySem.W.Frag) (mg : Str → Option Value) (base : Heap) (cx : CXT) (T : Addr → Prop) (m : Str) (k : Nat) (ps : List Str) (sp : Addr → Sp) : Prop where
  ex : ∀ C, T C → ∃ f fd, Cls K C ∧ Meth K C m f ∧ Binds K fd ps [] ∧ FnOk P w K mg base cx k f fd ps (sp C)
theorem DispAt.mono {P : Program} {w : World} {K : PySem.W.Frag} {mg : Str → Option Value} {base : Heap} {cx : CXT} {T : Addr → Prop} {m : Str} {j k : Nat} {ps : List Str} {sp : Addr → Sp} (D : DispAt P w K mg base cx T m j ps sp) (h : j ≤ k) : DispAt P w K mg base cx T m k ps sp :=
  ⟨fun C t => let ⟨f, fd, h1, h2, h3, h4⟩ := D.ex C t; ⟨f, fd, h1, h2, h3, h4.mono h⟩⟩
theorem DispAt.imp {P : Program} {w : World} {K : PySem.W.Frag} {mg : Str → Option Value} {base : Heap} {cx : CXT} {T : Addr → Prop} {m : Str} {k : Nat} {ps : List Str} {sp sp' : Addr → Sp} (D : DispAt P w K mg base cx T m k ps sp) (h : ∀ C vs H Q E, T C → sp' C vs H Q E → sp C vs H Q E) : DispAt P w K mg base cx T m k ps sp' :=
  ⟨fun C t => let ⟨f, fd, h1, h2, h3, h4⟩ := D.ex C t; ⟨f, fd, h1, h2, h3, h4.imp fun vs H Q E => h C vs H Q E t⟩⟩
/-- o.m(..), o an instance of one of the classes T -/
def tMethD (T : Addr → Prop) (m : Str) (sp : Addr → Sp) (E : XK) (ta : TE) (t : TA) : TE := fun σ H Q => ta σ H fun x H1 => ∃ a C dx fs, x = .ref a ∧ H1 a = some (.ins C dx fs) ∧ T C ∧ fs.lookup m = none ∧
  t σ H1 fun vs H2 => sp C (x :: vs) H2 Q E
section
variable {X : Cx} {cx : CXT} {j k : Nat} {ps : List Str} {sp : Addr → Sp} {E : XK} {T : Addr → Prop} {m : Str} {p pos apos : Pos} {e o : Expr} {es : List Expr} {ta : TE} {t : TA}
theorem pe_methD {pl : Sem Bool} (D : DispAt X.prog X.w X.K X.mg X.base cx T m k ps sp) (hr : Room j X.A) (hx : Passes cx X E) (he : PE X o ta) (ha : PA X (e :: es) t) (hj : k ≤ j := by decide)
    (hst : starEach (e :: es) X.env = (false, eval e X.env) :: starEach es X.env := by rfl) (hpl : (backTo pos (starEach es X.env)).any (·.1) = false := by rfl)
    (ht : eval (.Call (.Attribute o m apos) (e :: es) [] pos) X.env = (do
      let ov ← eval o X.env
      standAt apos.atName
      let (f, first) ← holding [ov] (getMethod ov m pl)
      callWith pos f first (backTo pos (starEach (e :: es) X.env)) (backToKw pos (keywordEach [] X.env))) := by rfl) :
    PE X (.Call (.Attribute o m apos) (e :: es) [] pos) (tMethD T m sp E ta t) := by
  refine ⟨fun pins s σ H Q I h => ?_⟩
  refine PySem.W.methodCall_KW (pl := pl) (thn (he.run pins s σ H _ I h) fun u s1 ⟨x, H1, I1, rx, a, C, dx, fs, ex, ea, tc, l, q⟩ => ?_) ht
  subst ex
  obtain rfl : u = Value.ref a := rx
  obtain ⟨f, fd, c, hm, hb, F⟩ := D.ex C tc
  refine getmeth_ok I1 ea c hm l ?_
  refine PySem.W.callWith_K (first := [.ref a]) (h₀ := X.base) I.ok.mod.kin hm.kp (thn (ha.run pos pins s1 σ H1 _ I1 q) fun us s2 ⟨vs, H2, I2, r, q2⟩ => ⟨I2.kIn, ?_⟩) hst hpl
  exact run_fn (us := .ref a :: us) (vs := .ref a :: vs) (dvs := []) (ds := []) F (hr.mono hj) hb .nil hx I2 (.cons rfl r) (by rw [List.append_nil]; exact q2)
theorem pe_methD0 {pl : Sem Bool} (D : DispAt X.prog X.w X.K X.mg X.base cx T m k ps sp) (hr : Room j X.A) (hx : Passes cx X E) (he : PE X o ta) (hj : k ≤ j := by decide)
    (ht : eval (.Call (.Attribute o m apos) [] [] pos) X.env = (do
      let ov ← eval o X.env
      standAt apos.atName
      let (f, first) ← holding [ov] (getMethod ov m pl)
      callWith pos f first (backTo pos (starEach [] X.env)) (backToKw pos (keywordEach [] X.env))) := by rfl) :
    PE X (.Call (.Attribute o m apos) [] [] pos) (tMethD T m sp E ta tNil) := by
  refine ⟨fun pins s σ H Q I h => ?_⟩
  refine PySem.W.methodCall_KW (pl := pl) (thn (he.run pins s σ H _ I h) fun u s1 ⟨x, H1, I1, rx, a, C, dx, fs, ex, ea, tc, l, q⟩ => ?_) ht
  subst ex
  obtain rfl : u = Value.ref a := rx
  obtain ⟨f, fd, c, hm, hb, F⟩ := D.ex C tc
  refine getmeth_ok I1 ea c hm l ?_
  refine PySem.W.callWith_K0 (first := [.ref a]) I1.kIn hm.kp ?_
  exact run_fn (us := [.ref a]) (vs := [.ref a]) (dvs := []) (ds := []) F (hr.mono hj) hb .nil hx I1 (.cons rfl .nil) q
end
/-- a method of the class at C, as the text has it -/
structure MethAt (K : PySem.W.Frag) (C : Addr) (m qual : Str) (st : Stmt) (ps : List Str) : Prop where
  ex : ∃ f fd, Meth K C m f ∧ Fun K m qual st f fd ∧ Binds K fd ps []
theorem methAt_mk {K : PySem.W.Frag} {C : Addr} {m qual : Str} {st : Stmt} {ps : List Str} {f : Addr} {oc : Value} {od an : Option Addr} {osl : Array (Option Value)} {kV doc pm cdv ct : Value}
    (a : PySem.W.findIn K (.ref C) m = some (some (.ref f))) (i : PySem.W.isFn K (.ref f) = true) (l : K.lookup f = some ⟨oc, od, .func (PySem.W.fnOf m qual (defArgs st) (defBody st) (defScope st) .none kV doc pm an cdv ct), osl⟩)
    (c : PySem.W.codeIn K cdv qual = true) (k : PySem.W.keepIn K (.ref f) = true)
    (b : ∀ us : List Value, us.length = ps.length → bindArgs (PySem.W.fnOf m qual (defArgs st) (defBody st) (defScope st) .none kV doc pm an cdv ct) ⟨us, []⟩ = pure (ps.zip us)) : MethAt K C m qual st ps :=
  ⟨f, _, ⟨a, i, k⟩, fun_mk l c k, .all b⟩
theorem methAt_ok {P : Program} {w : World} {K : PySem.W.Frag} {mg : Str → Option Value} {base : Heap} {C : Addr} {m qual : Str} {st : Stmt} {N ps : List Str} {k : Nat} {sp : Sp} (c : Cls K C) (D : MethAt K C m qual st ps) (S : FnScope N ps (defScope st)) (len : ∀ vs H Q E, sp vs H Q E → vs.length = ps.length)
    (hbody : ∀ (f : Addr) (cdv : Value) (A : Around) (outer : List Env) (s : Shared) (H : Hp) (vs : List V) (Q : VK) (E : XK), Room k (A.deeper (envOfC qual (defScope st) s.heap.objs.size f cdv)) → sp vs H Q E →
      ∃ t, PSs (cxOf CX0 P w K mg base N qual (defScope st) f cdv A outer s H E).nox (defBody st) t ∧ t { nx := fun _ H' => Q .non H', rt := Q } (start N vs) H) :
    ∃ f fd, Cls K C ∧ Meth K C m f ∧ Binds K fd ps [] ∧ FnOk P w K mg base CX0 (k + 1) f fd ps sp := by
  obtain ⟨f, fd, h1, h2, h3⟩ := D.ex
  exact ⟨f, fd, c, h1, h3, h2.ok S len (hbody f)⟩
/-- what is asked of an own class -/
structure ClsAt (K : PySem.W.Frag) (mg : Str → Option Value) (x : Str) (C : Addr) : Prop where
  mg_ : mg x = some (.ref C)
  cl : Cls K C
  ha : PySem.W.findIn K (.ref C) "__class__" = some (some (.builtin "object.__class__"))
  hn : PySem.W.specialIn K (.builtin "object.__class__") "__get__" = some (some (.builtin "getset_descriptor.__get__"))
  htk : PySem.W.takesIn K (.builtin "object.__class__") = some true
  hm : PySem.W.mroIn K C (.type "object") = some true
  mkg : PySem.W.makesIn K C = true
  kp : PySem.W.keepIn K (.ref C) = true
theorem clsAt_mk {K : PySem.W.Frag} {mg : Str → Option Value} {h : Heap} {x : Str} {C : Addr} (X : K.In h) (G : h.Ns mainGlobals mg) (a : PySem.W.nsIn K mainGlobals x = some (some (.ref C)))
    (pg : PySem.W.plainGet K C Str.empty = true) (hd : PySem.W.hasDictIn K C = true) (po : PySem.W.plainOver K C = true) (sa : PySem.W.findIn K (.ref C) "__setattr__" = some (some (.builtin "object.__setattr__")))
    (ha : PySem.W.findIn K (.ref C) "__class__" = some (some (.builtin "object.__class__"))) (hn : PySem.W.specialIn K (.builtin "object.__class__") "__get__" = some (some (.builtin "getset_descriptor.__get__")))
    (htk : PySem.W.takesIn K (.builtin "object.__class__") = some true) (hm : PySem.W.mroIn K C (.type "object") = some true) (mk : PySem.W.makesIn K C = true) (kp : PySem.W.keepIn K (.ref C) = true) : ClsAt K mg x C :=
  ⟨PySem.W.mg_of X G a, ⟨pg, hd, po, sa⟩, ha, hn, htk, hm, mk, kp⟩
/-- a new instance of the class called x -/
structure MakAt (P : Program) (w : World) (K : PySem.W.Frag) (mg : Str → Option Value) (base : Heap) (cx : CXT) (x : Str) (C : Addr) (k : Nat) (ps : List Str) (sp : Sp) : Prop where
  ex : ∃ f fd, mg x = some (.ref C) ∧ Mk K C f ∧ Binds K fd ps [] ∧ FnOk P w K mg base cx k f fd ps sp
theorem makAt_of {P : Program} {w : World} {K : PySem.W.Frag} {mg : Str → Option Value} {base : Heap} {cx : CXT} {x : Str} {C : Addr} {k : Nat} {ps : List Str} {sp : Sp} (c : ClsAt K mg x C)
    (h : ∃ f fd, Cls K C ∧ Meth K C "__init__" f ∧ Binds K fd ps [] ∧ FnOk P w K mg base cx k f fd ps sp) : MakAt P w K mg base cx x C k ps sp := by
  obtain ⟨f, fd, _, h1, h2, h3⟩ := h
  exact ⟨f, fd, c.mg_, ⟨c.mkg, h1.at_, h1.fn, c.kp⟩, h2, h3⟩
section
variable {X : Cx} {cx : CXT} {j k : Nat} {ps : List Str} {sp : Sp} {E : XK} {x : Str} {C : Addr} {p pos : Pos} {e : Expr} {es : List Expr} {t : TA}
theorem pe_makeF (M : MakAt X.prog X.w X.K X.mg X.base cx x C k ps sp) (hr : Room j X.A) (hx : Passes cx X E) (ha : PA X (e :: es) t) (hj : k + 1 ≤ j := by decide) (hg : Gl X x := by rfl)
    (hdb : (x == ("__debug__" : Str)) = false := by decide) (he : starEach (e :: es) X.env = (false, eval e X.env) :: starEach es X.env := by rfl) (hpl : (backTo pos (starEach es X.env)).any (·.1) = false := by rfl) :
    PE X (.Call (.Name x p) (e :: es) [] pos) (tMake C sp [] E t) := by
  obtain ⟨f, fd, h1, h2, h3, h4⟩ := M.ex
  exact pe_make h2 h4 (hr.mono hj) hg h1 h3 .nil hx ha hdb he hpl
end

/-! ## isinstance(x, C), C one of one's own classes -/
theorem pe_cls {X : Cx} {x : Str} {C : Addr} {pos : Pos} (h : ClsAt X.K X.mg x C) (hg : Gl X x := by rfl) (hd : (x == ("__debug__" : Str)) = false := by decide) : PE X (.Name x pos) (tC (.ref C)) := pe_glob hg h.mg_ rfl hd
/-- the answer, by the receiver's class -/
def rIsO (K : PySem.W.Frag) (D : Addr) (T : Addr → Bool → Prop) : List V → Hp → VK → Prop := fun xs H Q => ∃ a C dx fs b, xs = [.ref a, .ref D] ∧ H a = some (.ins C dx fs) ∧ T C b ∧ Q (.bl b) H
/-- for each class C that may come: what it says, and isinstance's answer -/
def IsT (K : PySem.W.Frag) (D : Addr) (T : Addr → Bool → Prop) : Prop := ∀ C b, T C b → (∃ mg x, ClsAt K mg x C) ∧ PySem.W.kitOne K (.ref C) (.ref D) = some b
theorem call_isO {X : Cx} {D : Addr} {T : Addr → Bool → Prop} (h : IsT X.K D T) : CallR X (.builtin "isinstance") (rIsO X.K D T) := by
  intro pins s σ H xs us Q I r hq
  obtain ⟨a, C, dx, fs, b, rfl, ha, t, q⟩ := hq
  obtain ⟨⟨mg, x, c⟩, e⟩ := h C b t
  obtain ⟨u, w', rfl, ru, rw'⟩ := vals2 r
  cases rw'
  exact isinst_ok I ru (TyOf.ins ha c.cl c.ha c.hn c.htk c.hm) e fun tk => ⟨.bl b, H, I.tok _, rfl, q⟩

/-! ## tuple(d.keys()) -/
section
open PySem.W (KdlSrc kdu_collect KdlKeysView)
variable {prog : Program} {w : World} {A : Around} {E : Value → Shared → Prop} {s : Shared} {T : String} {r d : Addr} {n : Nat} {P : Nat → Value → Prop} {OK : Heap → Prop}
theorem code_tuple_new_kdl {Q₁ : Value → Shared → Prop} (K : KdlSrc prog w T r d n P OK) (hh : A.handled = none) (hok : OK s.heap) (hn : n ≤ sizeLine)
    (h : ∀ (h' : Heap) (tk : Nat) (acc : Array Value), (∀ b o, s.heap.get? b = some o → h'.get? b = some o) → ItemsOf P acc n →
      Q₁ (.ref h'.objs.size) { s with heap := h'.push { cls := .type "tuple", data := .seq acc }, toks := tk }) :
    codeAny (model prog w) A (.call (.builtin "tuple.__new__") ⟨[.type "tuple", .ref r], []⟩) (wants Q₁ E) s := by
  refine codeAny_of_tree ?_
  show wpAny _ A.in1 (do checkBuiltinCall "tuple.__new__" ⟨[.type "tuple", .ref r], []⟩; again (.builtin "tuple.__new__" ⟨[.type "tuple", .ref r], []⟩)) _ _ s
  refine wpAny_bind (wpAny_of_eq (F.newCall_tuple_1 _) (wpAny_pure ⟨plainId_quiet F.plain_tuple_new _, codeAny_builtin F.entry_tuple_new ?_⟩))
  rw [Around.under_plainId F.plain_tuple_new _]
  have hsub := sub_tuple_self
  have hinit := init_tuple_lookup
  have hmh := madeHere_tuple
  have hTI : s.TypeIs (.ref r) T := K.type s hok
  have hh1 : A.in1.handled = none := hh
  have hnt := K.notTuple
  wp_walk using wpAny_typeOf hTI, kdu_collect (A := A.in1) K hh1 hok hn
  intro h' tk acc hk hacc
  show wpAny _ _ (Builtin.Tuple.tupleExact acc.toList.toArray >>= fun v => ret v) _ _ _
  unfold Builtin.Tuple.tupleExact
  refine wpAny_bind (wpAny_newObj_type ?_ (by show acc.toList.toArray.size ≤ sizeLine; simp only [Array.toArray_toList]; rw [hacc.1]; exact hn))
  refine wpAny_pure ?_
  have e : acc.toList.toArray = acc := by simp
  rw [e]
  exact h h' tk acc hk hacc
theorem call_tuple_kdl {Q : Value → Shared → Prop} (K : KdlSrc prog w T r d n P OK) (hh : A.handled = none) (hok : OK s.heap) (hn : n ≤ sizeLine)
    (hQ : ∀ (h' : Heap) (tk : Nat) (acc : Array Value), (∀ b o, s.heap.get? b = some o → h'.get? b = some o) → ItemsOf P acc n →
      Q (.ref h'.objs.size) { s with heap := h'.push { cls := .type "tuple", data := .seq acc }, toks := tk }) :
    wpAny (model prog w) A (call (.type "tuple") [.ref r]) Q E s := by
  refine callType_codes (Q₁ := fun obj s₁ => s₁.TypeIs obj "tuple" ∧ Q obj s₁) F.called_tuple (F.typeCall_tuple_1 _) F.entry_object_init
    (code_tuple_new_kdl (A := A.in1) K hh hok hn fun h' tk acc hk hacc => ⟨⟨_, Heap.get?_push_size _ rfl, rfl⟩, hQ h' tk acc hk hacc⟩) fun obj s₁ h₁ => ?_
  exact ⟨h₁.1, F.args_object_init_2 obj _, object_init_meets F.called_tuple.init.lookup F.called_tuple.made (by decide) prog w A.in1 _ s₁ ⟨h₁.1, rfl, h₁.2⟩⟩
end
def tTupKeys (td : TE) : TE := fun σ H Q => td σ H fun x H1 => ∃ d kvs, x = .ref d ∧ H1 d = some (.dK kvs) ∧ ∀ q, H1 q = none → Q (.ref q) (upd H1 q (.tup (kvs.map fun kv => kV kv.1)))
theorem pe_tupKeys {X : Cx} {e : Expr} {td : TE} {p pos apos cpos : Pos} (hm : X.mg "tuple" = none) (he : PE X e td) (hc : X.calm = true := by rfl) (hg : Gl X "tuple" := by rfl) (hbase : attributeBase e "keys" X.env (eval e X.env) = eval e X.env := by rfl) (hline : (apos.endLine == cpos.line) = true := by rfl)
    (na : starEach [.Call (.Attribute e "keys" apos) [] [] cpos] X.env = (false, eval (.Call (.Attribute e "keys" apos) [] [] cpos) X.env) :: starEach [] X.env := by rfl) :
    PE X (.Call (.Name "tuple" p) [.Call (.Attribute e "keys" apos) [] [] cpos] [] pos) (tTupKeys td) := by
  refine ⟨fun pins s σ H Q I h => ?_⟩
  refine Call_ (ld_blt I hg hm boot_tuple (PyProof.Rows.callWith_type1 (args_cons ?_ na) na))
  refine wpAny_Call_method (T := "dict") (id := "dict.keys") hbase rfl hline F.plainAttrs_dict F.slot_dict_keys F.type_dict_keys (thn (he.run pins s σ H _ I h) fun u s1 ⟨x, H1, I1, rx, d, kvs, ex, hd, q⟩ => ?_)
  subst ex
  obtain rfl : u = Value.ref d := rx
  obtain ⟨z, lo, vs, rk, hdt⟩ := (show ObjOk X.prog X.w H1 s1.heap d (.dK kvs) from I1.hok d _ hd)
  obtain ⟨ep, hat⟩ := hdt.dictAt
  have hl : kvs.length = vs.length := Paired.length rk
  refine ⟨hat.dictOf.typeIs, hat.dictOf.mapOf.noDict, ?_⟩
  have k2 : ∀ b o, s1.heap.get? b = some o → (s1.heap.push { cls := .type "dict_keys", data := .fields #[.ref d] }).get? b = some o := fun b ob q => Heap.get?_push_of_some _ q
  have I2 : Inv X pins σ H1 { s1 with heap := s1.heap.push { cls := .type "dict_keys", data := .fields #[.ref d] } } := I1.kept (t' := s1.toks) k2
  have view : PySem.W.KdlKeysView (s1.heap.push { cls := .type "dict_keys", data := .fields #[.ref d] }) s1.heap.objs.size d := ⟨_, Heap.get?_push_size _ rfl, rfl, rfl⟩
  have fin : wpAny (model X.prog X.w) X.A (call (.type "tuple") [.ref s1.heap.objs.size]) (EP X pins σ Q) X.xe { s1 with heap := s1.heap.push { cls := .type "dict_keys", data := .fields #[.ref d] } } := by
    refine call_tuple_kdl (PySem.W.kdl_keys (knd := mixKind X.prog X.w) (kvs := vs) (ep := ep) (d := d)) (I1.ok.hd hc) ⟨view, hat.push _⟩ (by rw [← hl]; exact z) fun h' tk acc hk hacc => ?_
    have I3 : Inv X pins σ H1 { s1 with heap := h', toks := tk } := I2.kept (h' := h') (t' := tk) hk
    have el : acc.toList.length = acc.size := by simp
    have rv : Vals (kvs.map fun kv => kV kv.1) acc.toList := by
      refine vals_of_at (by rw [List.length_map, el, hacc.1, hl]) fun j x w h1 h2 => ?_
      obtain ⟨k, y, hky, hi⟩ := hacc.2 j w (by rw [← Array.getElem?_toList]; exact h2)
      have e1 : (kvs.map (·.1))[j]? = some k := by
        rw [KV.keys rk, List.getElem?_map, hky] <;> rfl
      have e2 : (kvs.map fun kv => kV kv.1)[j]? = some (kV k) := by
        have e3 : (kvs.map fun kv => kV kv.1) = (kvs.map (·.1)).map kV := by rw [List.map_map] <;> rfl
        rw [e3, List.getElem?_map, e1] <;> rfl
      rw [e2] at h1
      cases h1
      exact keyIs_rel hi
    have hz : (kvs.map fun kv => kV kv.1).length ≤ sizeLine := by rw [List.length_map]; exact z
    have I4 : Inv X pins σ (upd H1 h'.objs.size (.tup (kvs.map fun kv => kV kv.1))) { s1 with heap := h'.push { cls := .type "tuple", data := .seq acc }, toks := tk } := by
      refine I3.laid (t' := tk) (fun b o e => Heap.get?_push_of_some _ e) (Nat.le_refl _) (show ObjOk X.prog X.w _ _ _ (.tup _) from ⟨hz, acc.toList, rv, ?_⟩)
      have e5 : acc.toList.toArray = acc := by simp
      rw [e5]
      exact ⟨_, Heap.get?_push_size _ rfl, rfl, _, rfl⟩
    exact ⟨.ref h'.objs.size, _, I4, rfl, q _ (I3.hok.fresh (Nat.le_refl _))⟩
  show wpAny _ _ (callWith cpos (.builtin "dict.keys") [.ref d] [] []) _ X.xe s1
  exact method_meetsIn F.slot_dict_keys F.entry_dict_keys rfl (PySem.evalArgs_none ⟨rfl, hat.dictOf.typeIs, F.args_dict_keys_1 _, _, PySem.W.kdl_meets_keys (mixKind X.prog X.w) d lo, ⟨vs, hat.dictOf⟩, args_nil fin⟩)

/-! ## xs != [] of any list -/
def rNeE (K : PySem.W.Frag) : R2 := fun x y H Q => ∃ a b xs, x = .ref a ∧ y = .ref b ∧ SqL K H a xs ∧ SqL K H b [] ∧ Q (.bl (!xs.isEmpty)) H
theorem op_neE {X : Cx} (hu : X.A.units < cLine) : OpR X (compareOp .NotEq) (rNeE X.K) := by
  intro pins s σ H x y v u Q I rx ry h
  obtain ⟨a, b, xs, rfl, rfl, ha, hb, q⟩ := h
  obtain rfl : v = .ref a := rx
  obtain rfl : u = .ref b := ry
  obtain ⟨its, r1, p1, z1⟩ := I.list ha
  obtain ⟨jts, r2, p2, z2⟩ := I.list hb
  cases r2
  cases r1 with
  | nil => exact SeqAt.RcNeAt.lists (e := fun _ => true) p1.isList p2.isList rfl hu (fun j h1 _ => absurd h1 (by simp)) X.prog X.w _ _ ⟨.bl _, H, I, rfl, q⟩
  | cons r t => exact SeqAt.RcNeAt.lists_lengths p1.isList p2.isList (by simp) hu X.prog X.w _ _ ⟨.bl _, H, I, rfl, q⟩
/-! ## what never changes: tuples, instances of the classes T -/
def ImmO (T : Addr → Prop) : HO → Prop
  | .tup _ => True
  | .ins C _ _ => T C
  | _ => False
def Imm (T : Addr → Prop) (H H' : Hp) : Prop := ∀ b o, H b = some o → ImmO T o → H' b = some o
theorem Same.imm {T : Addr → Prop} {H H' : Hp} (s : Same H H') : Imm T H H' := fun b o e _ => s b o e
theorem Imm.refl {T : Addr → Prop} (H : Hp) : Imm T H H := fun _ _ e _ => e
theorem Imm.trans {T : Addr → Prop} {H H1 H2 : Hp} (a : Imm T H H1) (b : Imm T H1 H2) : Imm T H H2 := fun c o e i => b c o (a c o e i) i
/-- a store to what may change -/
theorem Imm.mut {T : Addr → Prop} {H : Hp} {p : Addr} {o u : HO} (h : H p = some u) (n : ¬ ImmO T u) : Imm T H (upd H p o) := fun b v e i => by
  rw [upd_ne]
  · exact e
  · rintro rfl
    rw [h] at e
    cases e
    exact n i
theorem Imm.new {T : Addr → Prop} {H : Hp} {p : Addr} {o : HO} (h : H p = none) : Imm T H (upd H p o) := Same.imm (Same.new h)
/-- all but what stands at p -/
def But (p : Addr) (H H' : Hp) : Prop := ∀ b o, H b = some o → b ≠ p → H' b = some o
theorem Same.but {p : Addr} {H H' : Hp} (s : Same H H') : But p H H' := fun b o e _ => s b o e
theorem But.trans {p : Addr} {H H1 H2 : Hp} (a : But p H H1) (b : But p H1 H2) : But p H H2 := fun c o e n => b c o (a c o e n) n
theorem But.upd {p : Addr} {H : Hp} {o : HO} : But p H (upd H p o) := fun b u e n => by rw [upd_ne n]; exact e
theorem But.imm {T : Addr → Prop} {p : Addr} {u : HO} {H H' : Hp} (s : But p H H') (h : H p = some u) (n : ¬ ImmO T u) : Imm T H H' := fun b o e i => s b o e (by
  rintro rfl
  rw [h] at e
  cases e
  exact n i)
theorem But.same {p : Addr} {H0 H H' : Hp} (s0 : Same H0 H) (s : But p H H') (h : H0 p = none) : Same H0 H' := fun b o e => s b o (s0 b o e) (ne_of_none e h)

/-! ## comprehensions: the list so far -/
theorem lc_push {H1 H4 : Hp} {D : Addr} {L : List V} {i : Nat} {y : V} (s : Same H1 H4) (nD : H1 D = none) (h : H4 D = some (.lst (L.take i))) (hy : L[i]? = some y) (hl : L.length ≤ 1000000) :
    ∃ acc, H4 D = some (.lst acc) ∧ acc.length < sizeLine ∧ (Same H1 (upd H4 D (.lst (acc ++ [y]))) ∧ upd H4 D (.lst (acc ++ [y])) D = some (.lst (L.take (i + 1)))) := by
  refine ⟨_, h, ?_, Same.mut s nD, ?_⟩
  · rw [List.length_take, sizeLine_eq]
    omega
  · rw [upd_same, List.take_succ, hy]
    rfl
theorem lk1 {f m : Str} {v : V} (h : (m == f) = false) : List.lookup m [(f, v)] = none := by
  simp [List.lookup, h]
theorem lk1s {f : Str} {v : V} : List.lookup f [(f, v)] = some v := by
  simp [List.lookup]
/-! ## xs == [] of any list; xs.count(y) of flat things; isinstance(t, tuple) -/
def rEqE (K : PySem.W.Frag) : R2 := fun x y H Q => ∃ a b xs, x = .ref a ∧ y = .ref b ∧ SqL K H a xs ∧ SqL K H b [] ∧ Q (.bl xs.isEmpty) H
theorem op_eqE {X : Cx} (hu : X.A.units < cLine) : OpR X (compareOp .Eq) (rEqE X.K) := by
  intro pins s σ H x y v u Q I rx ry h
  obtain ⟨a, b, xs, rfl, rfl, ha, hb, q⟩ := h
  obtain rfl : v = .ref a := rx
  obtain rfl : u = .ref b := ry
  obtain ⟨its, r1, p1, z1⟩ := I.list ha
  obtain ⟨jts, r2, p2, z2⟩ := I.list hb
  cases r2
  cases r1 with
  | nil => exact SeqAt.RcAt.lists (e := fun _ => true) p1.isList p2.isList rfl hu (fun j h1 _ => absurd h1 (by simp)) X.prog X.w _ _ ⟨.bl _, H, I, rfl, q⟩
  | cons r t => exact SeqAt.RcAt.lists_lengths p1.isList p2.isList (by simp) hu X.prog X.w _ _ ⟨.bl _, H, I, rfl, q⟩
theorem count_eqU {x : V} : ∀ {xs : List V} {us : List Value}, Vals xs us → xs.all flatV = true → us.countP (eqU x) = xs.countP fun y => eqV y x
  | _, _, .nil, _ => rfl
  | y :: xs, u :: us, .cons r t, f => by
    rw [List.all_cons, Bool.and_eq_true] at f
    rw [List.countP_cons, List.countP_cons, eqU_of r f.1, count_eqU t f.2]
def rCntF (K : PySem.W.Frag) : V → List V → Hp → VK → Prop := fun x xs H Q => ∃ (p : Addr) (ys : List V) (y : V), x = .ref p ∧ xs = [y] ∧ SqL K H p ys ∧ flatV y = true ∧ ys.all flatV = true ∧ Q (.int ((ys.countP fun z => eqV z y : Nat) : Int)) H
theorem mt_countF {X : Cx} : MtR X "list.count" (rCntF X.K) := by
  intro pins s σ H x xs v us Q I rx rxs h
  obtain ⟨p, ys, y, rfl, rfl, hs, fy, fys, q⟩ := h
  cases rx
  cases rxs with
  | cons ry rt =>
    rename_i uy ut
    cases rt
    obtain ⟨its, rv, ⟨⟨cls, dd, data, sl⟩, n, ho, hc, hdn, hd⟩, hlen⟩ := I.list hs
    simp only at hc hd
    subst hc hd
    refine call_meets PySem.F.slot_list_count ⟨_, ho, rfl⟩ PySem.F.entry_list_count (PySem.F.args_list_count_2 _ _)
      (SeqAt.list_countAt p its.toArray n dd sl uy (eqU y)) ⟨ho, fun w hw => mem_eqAt ry fy rv fys w (by simpa using hw), ?_⟩
    have ec : its.toArray.toList.countP (eqU y) = ys.countP fun z => eqV z y := by
      show its.countP (eqU y) = _
      exact count_eqU rv fys
    refine ⟨.int _, H, I.tok _, ⟨s.toks, ?_⟩, q⟩
    rw [ec]
def rIsTup (K : PySem.W.Frag) : List V → Hp → VK → Prop := fun xs H Q => ∃ a vs, xs = [.ref a, .ty "tuple"] ∧ H a = some (.tup vs) ∧ Q (.bl true) H
theorem call_isTup {X : Cx} : CallR X (.builtin "isinstance") (rIsTup X.K) := by
  intro pins s σ H xs us Q I r h
  obtain ⟨a, vs, rfl, ha, q⟩ := h
  exact call_isi pins s σ H _ us Q I r ⟨_, _, _, _, true, rfl, .ty "tuple", .base (.tup ha), kit_ty (by decide +kernel), q⟩
/-! ## slices of lists -/
theorem cutV_to (l : List V) (n : Nat) : cutV l none (some (n : Int)) = l.take n := by
  unfold cutV
  rw [HT.sIx_none, HT.sIx_nat, List.drop_zero, Nat.sub_zero]
  by_cases h : n ≤ l.length
  · rw [Nat.min_eq_left h]
  · rw [Nat.min_eq_right (by omega), List.take_of_length_le (Nat.le_refl _), List.take_of_length_le (by omega)]
theorem cutV_from (l : List V) (n : Nat) : cutV l (some (n : Int)) none = l.drop n := by
  unfold cutV
  rw [HT.sIx_none, HT.sIx_nat]
  by_cases h : n ≤ l.length
  · rw [Nat.min_eq_left h, List.take_of_length_le (by rw [List.length_drop]; omega)]
  · rw [Nat.min_eq_right (by omega), List.drop_of_length_le (Nat.le_refl _), List.drop_of_length_le (by omega)]
    simp
theorem cutV_last (l : List V) : cutV l none (some (-1)) = l.dropLast := by
  unfold cutV
  rw [HT.sIx_none, List.drop_zero, Nat.sub_zero, List.dropLast_eq_take]
  congr 1
  show (if (-1 : Int) < 0 then ((-1 : Int) + (l.length : Int)).toNat else min (-1 : Int).toNat l.length) = _
  rw [if_pos (by decide)]
  omega
theorem slL_to {K : PySem.W.Frag} {H : Hp} {a : Addr} {xs : List V} {i : Int} {Q : VK} (n : Nat) (e : i = (n : Int)) (h : SqL K H a xs) (k : ∀ p, H p = none → Q (.ref p) (upd H p (.lst (xs.take n)))) : rSlL K (.ref a) none (some i) H Q :=
  ⟨a, xs, rfl, h, fun p np => by rw [e, cutV_to]; exact k p np⟩
theorem slL_from {K : PySem.W.Frag} {H : Hp} {a : Addr} {xs : List V} {i : Int} {Q : VK} (n : Nat) (e : i = (n : Int)) (h : SqL K H a xs) (k : ∀ p, H p = none → Q (.ref p) (upd H p (.lst (xs.drop n)))) : rSlL K (.ref a) (some i) none H Q :=
  ⟨a, xs, rfl, h, fun p np => by rw [e, cutV_from]; exact k p np⟩
theorem slL_last {K : PySem.W.Frag} {H : Hp} {a : Addr} {xs : List V} {Q : VK} (h : SqL K H a xs) (k : ∀ p, H p = none → Q (.ref p) (upd H p (.lst xs.dropLast))) : rSlL K (.ref a) none (some (-1)) H Q :=
  ⟨a, xs, rfl, h, fun p np => by rw [cutV_last]; exact k p np⟩
end Ru

set_option Elab.async false
set_option linter.all false
set_option maxRecDepth 100000
set_option maxHeartbeats 2000000
/-! what is raised: defs that may raise, one's own classes of errors, a def that is asked while one is handled -/
namespace Ru
open PySem PySem.Spec PyProof.Rows L2

/-! ## defs that may raise -/
section
variable {P : Program} {w : World} {K : PySem.W.Frag} {mg : Str → Option Value} {base : Heap}
theorem fnAt_okX {x : Str} {st : Stmt} {N ps : List Str} {k : Nat} {sp : Sp} (D : DefAt K mg x st ps) (S : FnScope N ps (defScope st)) (len : ∀ vs H Q E, sp vs H Q E → vs.length = ps.length)
    (hbody : ∀ (f : Addr) (cdv : Value) (A : Around) (outer : List Env) (s : Shared) (H : Hp) (vs : List V) (Q : VK) (E : XK), Room k (A.deeper (envOfC x (defScope st) s.heap.objs.size f cdv)) → sp vs H Q E →
      ∃ t, PSs (cxOf (L2.CX P w) P w K mg base N x (defScope st) f cdv A outer s H E) (defBody st) t ∧ t { nx := fun _ H' => Q .non H', rt := Q } (start N vs) H) : FnAt P w K mg base (L2.CX P w) x (k + 1) ps sp := by
  obtain ⟨f, fd, h1, h2, h3⟩ := D.ex
  obtain ⟨oc, od, kV, doc, pm, an, cdv, ct, osl, e, lk, hcd⟩ := h2.ex
  subst e
  exact ⟨f, _, h1, h2.kp, h3, fn_of lk hcd S len fun A outer s H vs Q E hr hsp => hbody f cdv A outer s H vs Q E hr hsp⟩
theorem methAt_okX {C : Addr} {m qual : Str} {st : Stmt} {N ps : List Str} {k : Nat} {sp : Sp} (c : Cls K C) (D : MethAt K C m qual st ps) (S : FnScope N ps (defScope st)) (len : ∀ vs H Q E, sp vs H Q E → vs.length = ps.length)
    (hbody : ∀ (f : Addr) (cdv : Value) (A : Around) (outer : List Env) (s : Shared) (H : Hp) (vs : List V) (Q : VK) (E : XK), Room k (A.deeper (envOfC qual (defScope st) s.heap.objs.size f cdv)) → sp vs H Q E →
      ∃ t, PSs (cxOf (L2.CX P w) P w K mg base N qual (defScope st) f cdv A outer s H E) (defBody st) t ∧ t { nx := fun _ H' => Q .non H', rt := Q } (start N vs) H) :
    ∃ f fd, Cls K C ∧ Meth K C m f ∧ Binds K fd ps [] ∧ FnOk P w K mg base (L2.CX P w) (k + 1) f fd ps sp := by
  obtain ⟨f, fd, h1, h2, h3⟩ := D.ex
  obtain ⟨oc, od, kV, doc, pm, an, cdv, ct, osl, e, lk, hcd⟩ := h2.ex
  subst e
  exact ⟨f, _, c, h1, h3, fn_of lk hcd S len fun A outer s H vs Q E hr hsp => hbody f cdv A outer s H vs Q E hr hsp⟩
end
/-- what a callee lets out leaves the def, too -/
theorem passX {X : Cx} {E : XK} (tk : L2.Takes X fun cls d _ H => E cls d H) : Passes (L2.CX X.prog X.w) X E := L2.passes_call tk fun _ _ _ _ h => h
/-- around a try nothing is let out -/
theorem takesN {X : Cx} : L2.Takes X (fun _ _ _ _ => False) := fun _ _ x => by
  obtain ⟨_, _, _, _, _, _, _, _, _, _, _, _, _, _, _, _, z⟩ := x
  exact z.elim
section
variable {X : Cx} {W : WX} {j k : Nat} {ps : List Str} {sp : Sp} {x : Str} {p pos : Pos} {e : Expr} {es : List Expr} {t : TA}
/-- f(e, ..) within a try -/
theorem pe_callT (F : FnAt X.prog X.w X.K X.mg X.base (L2.CX X.prog X.w) x k ps sp) (hr : Room j X.A) (tk : L2.Takes X W) (ha : PA X (e :: es) t) (hj : k ≤ j := by decide) (hg : Gl X x := by rfl)
    (hdb : (x == ("__debug__" : Str)) = false := by decide) (he : starEach (e :: es) X.env = (false, eval e X.env) :: starEach es X.env := by rfl) (hpl : (backTo pos (starEach es X.env)).any (·.1) = false := by rfl) :
    PE X (.Call (.Name x p) (e :: es) [] pos) (tCallS sp (WE W) t) := by
  obtain ⟨f, fd, h1, h2, h3, h4⟩ := F.ex
  exact pe_callS h4 (hr.mono hj) hg h1 h2 h3 (fun σ => L2.passAt tk σ) ha hdb he hpl
end

/-! ## one's own classes of errors -/
/-- a class of errors called x, at C, over L, over ValueError -/
structure ExcAt (K : PySem.W.Frag) (mg : Str → Option Value) (x : Str) (C L : Addr) : Prop where
  gP : mg x = some (.ref C)
  xP : PySem.W.excIn K C [.type "ValueError", .type "Exception", .type "BaseException", .type "object"] "ValueError.__new__" = true
  kP : PySem.W.keepIn K (.ref C) = true
  is_ : ExcC K C
  tP : PySem.W.typeIn K (.ref C) = some (.type "type")
  mro : ∃ cd, PySem.W.clsIn K C = some cd ∧ cd.mro = [.ref C, .ref L, .type "ValueError", .type "Exception", .type "BaseException", .type "object"]
/-- the class over them -/
structure ErrAt (K : PySem.W.Frag) (mg : Str → Option Value) (x : Str) (L : Addr) : Prop where
  gP : mg x = some (.ref L)
  sub : PySem.W.subIn K (.ref L) (.type "BaseException") = some true
  tP : PySem.W.typeIn K (.ref L) = some (.type "type")
  hd : PySem.W.hasDictIn K L = true
theorem excAt_mk {K : PySem.W.Frag} {mg : Str → Option Value} {h : Heap} {x : Str} {C L : Addr} {cd : ClassData} (X : K.In h) (G : h.Ns mainGlobals mg) (a : PySem.W.nsIn K mainGlobals x = some (some (.ref C)))
    (b : PySem.W.excIn K C [.type "ValueError", .type "Exception", .type "BaseException", .type "object"] "ValueError.__new__" = true) (c : PySem.W.keepIn K (.ref C) = true)
    (d : PySem.W.findIn K (.ref C) "__getattribute__" = some (some (.builtin "BaseException.__getattribute__"))) (e : PySem.W.findIn K (.ref C) "__getattr__" = some none) (f : PySem.W.subIn K (.ref C) (.type "BaseException") = some true) (g : PySem.W.hasDictIn K C = true)
    (i : PySem.W.findIn K (.ref C) "__class__" = some (some (.builtin "object.__class__"))) (j : PySem.W.specialIn K (.builtin "object.__class__") "__get__" = some (some (.builtin "getset_descriptor.__get__"))) (k : PySem.W.takesIn K (.builtin "object.__class__") = some true)
    (l : PySem.W.mroIn K C (.type "object") = some true) (m : PySem.W.typeIn K (.ref C) = some (.type "type")) (n : PySem.W.clsIn K C = some cd) (o : cd.mro = [.ref C, .ref L, .type "ValueError", .type "Exception", .type "BaseException", .type "object"]) : ExcAt K mg x C L :=
  ⟨PySem.W.mg_of X G a, b, c, ⟨d, e, f, g, i, j, k, l⟩, m, cd, n, o⟩
theorem errAt_mk {K : PySem.W.Frag} {mg : Str → Option Value} {h : Heap} {x : Str} {L : Addr} (X : K.In h) (G : h.Ns mainGlobals mg) (a : PySem.W.nsIn K mainGlobals x = some (some (.ref L)))
    (b : PySem.W.subIn K (.ref L) (.type "BaseException") = some true) (c : PySem.W.typeIn K (.ref L) = some (.type "type")) (d : PySem.W.hasDictIn K L = true) : ErrAt K mg x L := ⟨PySem.W.mg_of X G a, b, c, d⟩
section
variable {K : PySem.W.Frag} {mg mg' : Str → Option Value} {x y : Str} {C D L M : Addr}
theorem ExcAt.subs (T : ExcAt K mg x C L) (v : Value) : PySem.W.subIn K (.ref C) v = some ([.ref C, .ref L, .type "ValueError", .type "Exception", .type "BaseException", .type "object"].contains v) := by
  obtain ⟨cd, h1, h2⟩ := T.mro
  show PySem.W.mroIn K C v = _
  unfold PySem.W.mroIn
  rw [h1, Option.bind_some, h2]
  rfl
theorem ExcAt.caught (T : ExcAt K mg x C L) (E : ErrAt K mg' y L) : PySem.W.exmOne K (.ref C) (.ref L) = some true := by
  refine PySem.W.exm_ref E.sub E.hd E.tP ?_
  rw [T.subs]
  congr 1
  simp
/-- isinstance(e, D) of an error of class C -/
theorem ExcAt.kit (T : ExcAt K mg x C L) (U : ExcAt K mg' y D L) (nl : C ≠ L ∧ D ≠ L) : PySem.W.kitOne K (.ref C) (.ref D) = some (decide (C = D)) := by
  obtain ⟨cd, h1, h2⟩ := U.mro
  unfold PySem.W.kitOne
  by_cases h : C = D
  · rw [if_pos (by rw [h]; exact beq_self_eq_true _), decide_eq_true h]
  · rw [if_neg (by rw [beq_iff_eq]; intro q; exact h (Value.ref.inj q)), decide_eq_false h]
    show (if ((PySem.W.clsIn K D).isSome && PySem.W.typeIn K (.ref D) == some (.type "type")) = true then PySem.W.subIn K (.ref C) (.ref D) else none) = _
    rw [h1, U.tP, if_pos (show ((some cd).isSome && some (Value.type "type") == some (Value.type "type")) = true from rfl), T.subs]
    congr 1
    have e1 : (Value.ref D == Value.ref C) = false := by
      rw [beq_eq_false_iff_ne]
      intro q
      exact h (Value.ref.inj q).symm
    have e2 : (Value.ref D == Value.ref L) = false := by
      rw [beq_eq_false_iff_ne]
      intro q
      exact nl.2 (Value.ref.inj q)
    rw [List.contains_cons, e1, List.contains_cons, e2]
    rfl
theorem ExcAt.kitV (T : ExcAt K mg x C L) : PySem.W.kitOne K (.ref C) (.type "ValueError") = some true := by
  unfold PySem.W.kitOne
  rw [if_neg (by rw [beq_iff_eq]; intro q; cases q)]
  show (if PySem.W.kitMeta "ValueError" = true then PySem.W.subIn K (.ref C) (.type "ValueError") else none) = _
  rw [if_pos (by decide +kernel), T.subs]
  congr 1
end
section
variable {X : Cx} {W : WX} {C L : Addr} {x m : Str} {j : Nat} {p p2 pos pos' : Pos}
/-- raise C('m') -/
theorem ps_raiseO (hc : X.calm = true) (T : ExcAt X.K X.mg x C L) (tk : L2.Takes X W) (hg : Gl X x := by rfl) (hdb : (x == ("__debug__" : Str)) = false := by decide) :
    PS X (.Raise (some (.Call (.Name x p) [.Constant (.str m) j p2] [] pos)) none pos') (fun _ σ H => W (.ref C) none σ H) :=
  L2.ps_raise hc tk (L2.pmk_own PySem.F.excBase_ValueError T.xP T.gP T.kP (raises_own T.is_.hs T.tP) hg hdb)
end

/-! ## a def that is asked of the error that is handled -/
/-- the promise of a def that bears the handled error's object p among its arguments -/
structure FnP (P : Program) (w : World) (K : PySem.W.Frag) (mg : Str → Option Value) (base : Heap) (CX : CXT) (k : Nat) (f : Addr) (fd : FuncData) (ps : List Str) (sp : Addr → Value → Option Addr → Sp) : Prop where
  len : ∀ a c d vs H Q E, sp a c d vs H Q E → vs.length = ps.length
  run : ∀ (A : Around) (outer : List Env) (s : Shared) (H : Hp) (args : Args) (us : List Value) (vs : List V) (Q : VK) (E : XK) (p : Addr × Obj) (c : Value) (d : Option Addr), Zc c d p.2 → (∃ vs, p.2.data = .fields vs) → L2H.RoomH k A → L2H.PinOk outer H s p → Env0 P w K mg base A outer s H → BindsTo s fd args (ps.zip us) → Vals vs us → sp p.1 c d vs H Q E →
    codeAny (model P w) A (.call (.ref f) args) (CR CX outer P w H s Q E) s
structure FnPAt (P : Program) (w : World) (K : PySem.W.Frag) (mg : Str → Option Value) (base : Heap) (cx : CXT) (x : Str) (k : Nat) (ps : List Str) (sp : Addr → Value → Option Addr → Sp) : Prop where
  ex : ∃ f fd, mg x = some (.ref f) ∧ PySem.W.keepIn K (.ref f) = true ∧ Binds K fd ps [] ∧ FnP P w K mg base cx k f fd ps sp
theorem fnPAt_ok {P : Program} {w : World} {K : PySem.W.Frag} {mg : Str → Option Value} {base : Heap} {x : Str} {st : Stmt} {N ps : List Str} {k : Nat} {sp : Addr → Value → Option Addr → Sp} (D : DefAt K mg x st ps) (S : FnScope N ps (defScope st)) (len : ∀ a c d vs H Q E, sp a c d vs H Q E → vs.length = ps.length)
    (hbody : ∀ (f : Addr) (cdv : Value) (A : Around) (outer : List Env) (s : Shared) (H : Hp) (vs : List V) (Q : VK) (E : XK) (p : Addr × Obj) (c : Value) (d : Option Addr), Zc c d p.2 → (∃ vs, p.2.data = .fields vs) → L2H.RoomH k (A.deeper (envOfC x (defScope st) s.heap.objs.size f cdv)) → sp p.1 c d vs H Q E →
      ∃ t, PSs (L2H.cxH CX0 P w K mg base N x (defScope st) f cdv A outer s H E p).nox (defBody st) t ∧ t { nx := fun _ H' => Q .non H', rt := Q } (start N vs) H) : FnPAt P w K mg base CX0 x (k + 1) ps sp := by
  obtain ⟨f, fd, h1, h2, h3⟩ := D.ex
  obtain ⟨oc, od, kV, doc, pm, an, cdv, ct, osl, e, lk, hcd⟩ := h2.ex
  subst e
  refine ⟨f, _, h1, h2.kp, h3, len, fun A outer s H args us vs Q E p cl d hz hf hr hpin e0 hb r hsp => ?_⟩
  have there : K.In s.heap := e0.mod.kin.keeps fun b o z => (e0.bs b o z).1
  have seen : ∀ y ∈ ps.zip us, (defScope st).names.lookup y.1 = some .local ∨ ((defScope st).names.lookup y.1 = some .cell ∧ ((cellsFrom (s.heap.objs.size + 1) (defScope st).names []).lookup y.1).isSome = true) := fun y hy =>
    (S.par y.1 (List.of_mem_zip hy).1).imp id fun q => ⟨q, PySem.W.cellsFrom_some _ _ _ (.inl q)⟩
  refine codeAny_call_function hr.depth (there _ _ lk) rfl S.co S.gen rfl (PySem.W.codeRec_of there hcd) (hb _ _ _ _ (wpAny_newFunctionEnv_cells S.kind seen fun env he s1 y => ?_))
  subst he
  have lim : s.heap.NoLimit := e0.mod.nolimit.keeps fun b o z => (e0.bs b o z).1
  refine ⟨lim.keeps y.toInCall.keep, codeAny_func ?_⟩
  obtain ⟨t, ht, hq⟩ := hbody f cdv A outer s H vs Q E p cl d hz hf (hr.deeper _) hsp
  refine wpAny_mono (ht.nox.run [] s1 (L2.start N vs) H _ (L2H.inv_startH S hpin e0 (len _ _ _ _ _ _ _ hsp) r y) hq) (fun fl s' hs => ?_) fun e s' hs => hs
  match fl, hs with
  | .ret u, ⟨v, _, H', J, rv, q⟩ => exact ⟨v, H', J.os, J.bare, J.base, J.hok, rv, q⟩
  | .next, ⟨_, H', J, q⟩ => exact ⟨.non, H', J.os, J.bare, J.base, J.hok, rfl, q⟩
  | .brk, ⟨_, _, _, q⟩ => exact False.elim q
  | .cont, ⟨_, _, _, q⟩ => exact False.elim q
/-- f(e, ..) in an except suite -/
theorem pe_callP {X : Cx} {a : Addr} {oe : Obj} {pn : List (Addr × Obj)} {j k : Nat} {x : Str} {ps : List Str} {sp : Addr → Value → Option Addr → Sp} {cls : Value} {d : Option Addr} {q pos : Pos} {e : Expr} {es : List Expr} {t : TA} (F : FnPAt X.prog X.w X.K X.mg X.base CX0 x k ps sp) (hz : Zc cls d oe) (hf : ∃ vs, oe.data = .fields vs) (hr : Room j X.A)
    (ha : PA (X.suite a ((a, oe) :: pn)) (e :: es) t) (hj : k ≤ j := by decide) (hg : Gl X x := by rfl)
    (hdb : (x == ("__debug__" : Str)) = false := by decide) (he : starEach (e :: es) X.env = (false, eval e X.env) :: starEach es X.env := by rfl) (hpl : (backTo pos (starEach es X.env)).any (·.1) = false := by rfl) :
    PE (X.suite a ((a, oe) :: pn)) (.Call (.Name x q) (e :: es) [] pos) (tCall (sp a cls d) [] E0 t) := by
  obtain ⟨f, fd, h1, h2, h3, h4⟩ := F.ex
  have room0 := (L2H.roomH_of hr).mono hj
  have room : L2H.RoomH k (X.suite a ((a, oe) :: pn)).A := ⟨room0.dp, room0.un⟩
  refine ⟨fun pins s σ H Q I h => wpAny_Call_Name_kw (ld_glob I hg h1 (PySem.W.callWith_K (h₀ := X.base) I.ok.mod.kin h2 (thn (ha.run pos pins s σ H _ I h) fun us s1 ⟨vs, H1, I1, r, z⟩ => ⟨I1.kIn, ?_⟩) he hpl) hdb)⟩
  have z : sp a cls d (vs ++ []) H1 Q E0 := z
  rw [List.append_nil] at z
  have b := h3 s1 us I1.kIn (by rw [List.append_nil, ← r.length]; exact h4.len _ _ _ _ _ _ _ z)
  rw [List.append_nil] at b
  obtain ⟨g1, g2, g3, g4, g5⟩ := I1.pin (a, oe) (List.mem_append_left _ List.mem_cons_self)
  refine wpAny_call (codeAny_mono (h4.run _ (X.suite a ((a, oe) :: pn)).stack s1 H1 ⟨us, []⟩ us vs Q E0 (a, oe) cls d hz hf room ⟨g1, g2, fun hm => (List.mem_cons.mp (I1.stkSub a hm)).elim g3 g4, g5⟩ I1.env0 b r z) fun r s' hq => ?_)
  match r, hq with
  | .error e, hq => exact False.elim hq
  | .ok (.ret u), hq => exact I1.after hq
  | .ok .next, hq => exact False.elim hq
  | .ok .brk, hq => exact False.elim hq
  | .ok .cont, hq => exact False.elim hq
/-- isinstance(e, c) in such a def, p's object an error of class C -/
def rIsP (K : PySem.W.Frag) (C : Addr) (p : Addr × Obj) : List V → Hp → VK → Prop := fun xs H Q => ∃ (c : V) (cv : Value) (b : Bool), xs = [.ref p.1, c] ∧ (∀ u, RelV c u → u = cv) ∧ PySem.W.kitOne K (.ref C) cv = some b ∧ Q (.bl b) H
/-- of some classes -/
def rIsPT (K : PySem.W.Frag) (C : Addr) (p : Addr × Obj) : List V → Hp → VK → Prop := fun xs H Q => ∃ (tp : Addr) (cs : List V) (us : List Value) (b : Bool), xs = [.ref p.1, .ref tp] ∧ H tp = some (.tup cs) ∧ Paired ClsV cs us ∧ PySem.W.kitAny K (.ref C) us = some b ∧ Q (.bl b) H
theorem instAt_of {h : Heap} {a D : Addr} {oe : Obj} (g : h.get? a = some oe) (hz : Zc (.ref D) none oe) (hf : ∃ vs, oe.data = .fields vs) : PySem.W.InstAt h a oe D none := by
  obtain ⟨vs, hv⟩ := hf
  refine ⟨g, hz.1, ?_, ?_⟩
  · unfold PySem.W.notCls
    rw [hv]
  · rw [hz.2]
    trivial
section
variable {X : Cx} {C : Addr} {p : Addr × Obj}
theorem call_isP (T : ExcC X.K C) (hz : Zc (.ref C) none p.2) (hf : ∃ vs, p.2.data = .fields vs) (hp : p ∈ X.pn) : CallR X (.builtin "isinstance") (rIsP X.K C p) := by
  intro pins s σ H xs us Q I r h
  obtain ⟨c, cv, b, rfl, hcv, e, q⟩ := h
  obtain ⟨u, w', rfl, ru, rw'⟩ := vals2 r
  cases (show u = Value.ref p.1 from ru)
  have ec := hcv _ rw'
  subst ec
  exact PySem.W.kia_one (PySem.W.handS_kitx_exc T.hg T.hk T.hs T.hd T.ha T.hn T.ht T.hm) I.kIn (instAt_of (I.pin p (List.mem_append_left _ hp)).1 hz hf) e (fun z => nomatch z) fun tk => ⟨.bl b, H, I.tok tk, rfl, q⟩
theorem call_isPT (T : ExcC X.K C) (hz : Zc (.ref C) none p.2) (hf : ∃ vs, p.2.data = .fields vs) (hp : p ∈ X.pn) : CallR X (.builtin "isinstance") (rIsPT X.K C p) := by
  intro pins s σ H xs us Q I r h
  obtain ⟨tp, cs, ws, b, rfl, hT, k, e, q⟩ := h
  obtain ⟨u, w', rfl, ru, rw'⟩ := vals2 r
  cases (show u = Value.ref p.1 from ru)
  cases (show w' = Value.ref tp from rw')
  obtain ⟨_, its, rv, o, h1, h2, n, h3⟩ := (show ObjOk X.prog X.w H s.heap tp (.tup cs) from I.hok tp _ hT)
  have e3 := ClsV.all k rv
  subst e3
  obtain ⟨oc, od, dt, sl⟩ := o
  simp only at h2 h3
  subst h2 h3
  exact PySem.W.kia_tup (PySem.W.handS_kitx_exc T.hg T.hk T.hs T.hd T.ha T.hn T.ht T.hm) I.kIn (instAt_of (I.pin p (List.mem_append_left _ hp)).1 hz hf) h1 e (fun z => nomatch z) fun tk => ⟨.bl b, H, I.tok tk, rfl, q⟩
end
/-- a class of errors as a value -/
theorem pe_exc {X : Cx} {x : Str} {C L : Addr} {pos : Pos} (h : ExcAt X.K X.mg x C L) (hg : Gl X x := by rfl) (hd : (x == ("__debug__" : Str)) = false := by decide) : PE X (.Name x pos) (tC (.ref C)) := pe_glob hg h.gP rfl hd
/-! ## t[::-1] of a tuple -/
theorem pick_rev (xs : Array Value) : ((List.range xs.size).filterMap fun (m : Nat) => xs[(((xs.size : Int) - 1) + (m : Int) * (-1)).toNat]?).toArray = xs.toList.reverse.toArray := by
  congr 1
  have e : ∀ m ∈ List.range xs.size, xs[(((xs.size : Int) - 1) + (m : Int) * (-1)).toNat]? = xs[xs.size - 1 - m]? := by
    intro m hm
    have := List.mem_range.mp hm
    congr 1
    omega
  have cong : ∀ (l : List Nat) (f g : Nat → Option Value), (∀ m ∈ l, f m = g m) → l.filterMap f = l.filterMap g := by
    intro l f g
    induction l with
    | nil => intro _; rfl
    | cons a r ih =>
      intro h
      rw [List.filterMap_cons, List.filterMap_cons, h a List.mem_cons_self, ih fun m hm => h m (List.mem_cons_of_mem _ hm)]
  rw [cong _ _ _ e]
  have e2 : (List.range xs.size).filterMap (fun m => xs[xs.size - 1 - m]?) = ((List.range xs.size).map fun k => xs.size - 1 - k).filterMap (xs[·]?) := by
    rw [List.filterMap_map]
    rfl
  rw [e2, PySem.W.krv_range, List.filterMap_reverse, PySem.W.krv_all]
section
variable {prog : Program} {w : World} {A : Around} {E : Value → Shared → Prop} {s : Shared}
theorem sliceApplied_rev {sl : Addr} {vs : Value} {n : Nat} {Q : Int × Int × Nat → Shared → Prop} (hs : s.heap.IsSliceOf sl .none .none vs) (ps : IsPart vs (some (-1))) (h : Q ((n : Int) - 1, -1, n) s) :
    wpAny (model prog w) A (Builtin.Slice.sliceApplied (.ref sl) (pure (n : Int))) Q E s := by
  obtain ⟨os, hos, hcs, hds⟩ := id hs
  unfold Builtin.Slice.sliceApplied Builtin.Slice.sliceFields
  refine wpAny_bind (wpAny_bind (wpAny_field hos hds (x := .none) rfl (wpAny_bind (wpAny_field hos hds (x := .none) rfl (wpAny_bind (wpAny_field hos hds (x := vs) rfl (wpAny_pure ?_)))))))
  refine wpAny_bind (HT.slicePart_ ps ?_)
  show wpAny _ _ (if ((-1 : Int) == 0) = true then _ else _) _ _ s
  rw [if_neg (by decide)]
  refine wpAny_bind (HT.slicePart_ .none (wpAny_bind (HT.slicePart_ .none (wpAny_bind (wpAny_pure ?_)))))
  have e : Builtin.Slice.slicePlaces ((n : Int) - 1) (-1) (-1) = n := by
    unfold Builtin.Slice.slicePlaces
    rw [if_neg (by decide)]
    by_cases hn : (n : Int) - 1 > -1
    · rw [if_pos hn, show (- -1 : Int) = 1 by decide, Int.ediv_one]
      omega
    · rw [if_neg hn]
      omega
  show wpAny _ _ (pure ((n : Int) - 1, (-1 : Int), Builtin.Slice.slicePlaces ((n : Int) - 1) (-1) (-1))) _ _ s
  rw [e]
  exact wpAny_pure h
theorem getItem_tuple_rev {t sl : Addr} {items : Array Value} {vs : Value} {Q : Value → Shared → Prop} (ht : IsTup s.heap t items) (hs : s.heap.IsSliceOf sl .none .none vs) (ps : IsPart vs (some (-1)))
    (h : Q (.ref s.heap.objs.size) { s with heap := s.heap.push { cls := .type "tuple", data := .seq items.toList.reverse.toArray } }) (hsz : items.size ≤ sizeLine) : wpAny (model prog w) A (getItem (.ref t) (.ref sl)) Q E s := by
  have room : sizeOk (.seq items.toList.reverse.toArray) := by
    show items.toList.reverse.toArray.size ≤ sizeLine
    rw [List.size_toArray, List.length_reverse, Array.length_toList]
    exact hsz
  obtain ⟨os, hos, hcs, hds⟩ := id hs
  have hTs : s.TypeIs (.ref sl) "slice" := ⟨os, hos, hcs⟩
  unfold getItem
  try with_reducible refine wpAny_holding ?_
  first | refine wpAny_bind (wpAny_pure ?_) | skip
  refine wpAny_bind (wpAny_sequenceKey ht.typeIs (by decide) ?_)
  refine wpAny_bind (wpAny_callSpecial?_slot (name := Str.ofString "__getitem__") ht.typeIs PyProof.Rows.slot_tuple_getitem
    (wpAny_call_entry PyProof.Rows.slot_tuple_getitem ht.typeIs entry_tuple_getitem ?_ (args_tuple_getitem _ _)))
  show wpAny _ _ (Builtin.Tuple.tupleItemsOf (.ref t) >>= _) _ _ s
  refine wpAny_bind (tupleItemsOf_ ht ?_)
  refine wpAny_bind (wpAny_typeOf hTs ?_)
  rw [if_pos (by decide)]
  refine wpAny_bind (sliceApplied_rev hs ps ?_)
  show wpAny _ _ (if ((items.size : Int) - 1 == 0 && (-1 : Int) == 1 && items.size == items.size) = true then _ else _) _ _ s
  rw [if_neg (by rw [show ((-1 : Int) == 1) = false from rfl, Bool.and_false, Bool.false_and]; exact Bool.false_ne_true), pick_rev]
  first
    | exact wpAny_bind (m := Builtin.Tuple.tupleExact _) (wpAny_newObj_type (wpAny_pure ⟨_, rfl, wpAny_pure h⟩) room)
    | exact wpAny_bind (m := Builtin.Tuple.tupleExact _) (wpAny_newObj_type (wpAny_bind (wpAny_pure (wpAny_pure ⟨_, rfl, wpAny_pure h⟩))) room)
    | exact wpAny_bind (wpAny_bind (m := Builtin.Tuple.tupleExact _) (wpAny_newObj_type (wpAny_pure (wpAny_pure ⟨_, rfl, wpAny_pure h⟩)) room))
    | exact wpAny_bind (wpAny_bind (m := Builtin.Tuple.tupleExact _) (wpAny_newObj_type (wpAny_pure ⟨_, rfl, wpAny_pure h⟩) room))
end
def tRevT (K : PySem.W.Frag) (te : TE) : TE := fun σ H Q => te σ H fun x H1 => ∃ a xs, x = .ref a ∧ SqT K H1 a xs ∧ ∀ p, H1 p = none → Q (.ref p) (upd H1 p (.tup xs.reverse))
theorem pe_revT {X : Cx} {e : Expr} {te : TE} {k : Nat} {p1 p2 p3 pos : Pos} (he : PE X e te) : PE X (.Subscript e (.Slice none none (some (.UnaryOp .USub (.Constant (.int 1) k p1) p2)) p3) pos) (tRevT X.K te) := by
  refine ⟨fun pins s σ H Q I h => ?_⟩
  refine Subscript_ (thn (he.run pins s σ H _ I h) fun v s1 ⟨x, H1, I1, r1, a, xs, ex, hx, q⟩ => ?_)
  subst ex
  cases r1
  have hst : PO X (some (.UnaryOp .USub (.Constant (.int 1) k p1) p2)) (tPart (tUn (rU fun i => .int (-i)) (tC (.int 1)))) := po_some (pe_un un_neg pe_int)
  refine wpAny_Slice ?_
  rw [evalPart_none]
  refine wpAny_pure ?_
  refine wpAny_pure ?_
  refine thn (hst.run pins s1 σ H1 (fun o H4 => o = some (-1) ∧ H4 = H1) I1 ⟨1, rfl, -1, rfl, rfl, rfl⟩) fun vs s4 ⟨o, H4, I4, ps, eo, e4⟩ => ?_
  subst eo e4
  have I5 : Inv X pins σ H4 { s4 with heap := s4.heap.push { cls := .type "slice", data := .fields #[.none, .none, vs] } } := I4.kept (t' := s4.toks) fun b ob q => Heap.get?_push_of_some _ q
  obtain ⟨its, r, ht, hz⟩ := I5.tuple hx
  have hlen := r.length
  show wpAny (model X.prog X.w) X.A (subscriptTail e (.Slice none none (some (.UnaryOp .USub (.Constant (.int 1) k p1) p2)) p3) (.ref a) (.ref s4.heap.objs.size)) (EP X pins σ Q) X.xe { s4 with heap := s4.heap.push { cls := .type "slice", data := .fields #[.none, .none, vs] } }
  refine tail_any (ops := [.ref a, .ref s4.heap.objs.size]) ht.typeIs PyProof.Rows.slot_tuple_getitem.lookup ?_ (by with_unfolding_all rfl)
  refine getItem_tuple_rev ht (Heap.IsSliceOf.new _ .none .none vs) ps ?_ (by rw [List.size_toArray]; omega)
  refine ⟨.ref _, _, I5.laid (t' := s4.toks) (o := .tup xs.reverse) (fun b ob q => Heap.get?_push_of_some _ q) (Nat.le_refl _) ?_, rfl, q _ (I5.hok.fresh (Nat.le_refl _))⟩
  exact ⟨by rw [List.length_reverse]; exact hz, _, by simpa using r.reverse, IsTup.new _ _⟩

/-! ## C.m(o, ..): a def of a class, read off the class itself -/
structure ClsFnAt (K : PySem.W.Frag) (C : Addr) (m qual : Str) (st : Stmt) (ps : List Str) : Prop where
  ex : ∃ f fd, PySem.W.readsIn K C (.type "type") = true ∧ PySem.W.specialIn K (.ref C) "__getattribute__" = some (some (.builtin "type.__getattribute__")) ∧ PySem.W.findCls K (.ref C) (.type "type") m = some (.val (.ref f)) ∧ Fun K m qual st f fd ∧ Binds K fd ps []
theorem clsFnAt_mk {K : PySem.W.Frag} {C : Addr} {m qual : Str} {st : Stmt} {ps : List Str} {f : Addr} {oc : Value} {od an : Option Addr} {osl : Array (Option Value)} {kV doc pm cdv ct : Value}
    (r : PySem.W.readsIn K C (.type "type") = true) (g : PySem.W.specialIn K (.ref C) "__getattribute__" = some (some (.builtin "type.__getattribute__"))) (a : PySem.W.findCls K (.ref C) (.type "type") m = some (.val (.ref f)))
    (l : K.lookup f = some ⟨oc, od, .func (PySem.W.fnOf m qual (defArgs st) (defBody st) (defScope st) .none kV doc pm an cdv ct), osl⟩)
    (c : PySem.W.codeIn K cdv qual = true) (k : PySem.W.keepIn K (.ref f) = true)
    (b : ∀ us : List Value, us.length = ps.length → bindArgs (PySem.W.fnOf m qual (defArgs st) (defBody st) (defScope st) .none kV doc pm an cdv ct) ⟨us, []⟩ = pure (ps.zip us)) : ClsFnAt K C m qual st ps :=
  ⟨f, _, r, g, a, fun_mk l c k, .all b⟩
/-- the promise of a def that is read off the class C -/
structure ClsFn (P : Program) (w : World) (K : PySem.W.Frag) (mg : Str → Option Value) (base : Heap) (cx : CXT) (C : Addr) (m : Str) (k : Nat) (ps : List Str) (sp : Sp) : Prop where
  ex : ∃ f fd, PySem.W.readsIn K C (.type "type") = true ∧ PySem.W.specialIn K (.ref C) "__getattribute__" = some (some (.builtin "type.__getattribute__")) ∧ PySem.W.findCls K (.ref C) (.type "type") m = some (.val (.ref f)) ∧ PySem.W.keepIn K (.ref f) = true ∧ Binds K fd ps [] ∧ FnOk P w K mg base cx k f fd ps sp
theorem clsFn_okX {P : Program} {w : World} {K : PySem.W.Frag} {mg : Str → Option Value} {base : Heap} {C : Addr} {m qual : Str} {st : Stmt} {N ps : List Str} {k : Nat} {sp : Sp} (D : ClsFnAt K C m qual st ps) (S : FnScope N ps (defScope st)) (len : ∀ vs H Q E, sp vs H Q E → vs.length = ps.length)
    (hbody : ∀ (f : Addr) (cdv : Value) (A : Around) (outer : List Env) (s : Shared) (H : Hp) (vs : List V) (Q : VK) (E : XK), Room k (A.deeper (envOfC qual (defScope st) s.heap.objs.size f cdv)) → sp vs H Q E →
      ∃ t, PSs (cxOf (L2.CX P w) P w K mg base N qual (defScope st) f cdv A outer s H E) (defBody st) t ∧ t { nx := fun _ H' => Q .non H', rt := Q } (start N vs) H) :
    ClsFn P w K mg base (L2.CX P w) C m (k + 1) ps sp := by
  obtain ⟨f, fd, h1, h2, h3, h4, h5⟩ := D.ex
  obtain ⟨oc, od, kV, doc, pm, an, cdv, ct, osl, e, lk, hcd⟩ := h4.ex
  subst e
  exact ⟨f, _, h1, h2, h3, h4.kp, h5, fn_of lk hcd S len fun A outer s H vs Q E hr hsp => hbody f cdv A outer s H vs Q E hr hsp⟩
theorem pe_clsF {X : Cx} {cx : CXT} {j k : Nat} {C : Addr} {ps : List Str} {sp : Sp} {E : XK} {m : Str} {pos apos : Pos} {e o : Expr} {es : List Expr} {t : TA} {pl : Sem Bool} (F : ClsFn X.prog X.w X.K X.mg X.base cx C m k ps sp) (hr : Room j X.A) (hx : Passes cx X E) (he : PE X o (tC (.ref C))) (ha : PA X (e :: es) t) (hj : k ≤ j := by decide)
    (hst : starEach (e :: es) X.env = (false, eval e X.env) :: starEach es X.env := by rfl) (hpl : (backTo pos (starEach es X.env)).any (·.1) = false := by rfl)
    (ht : eval (.Call (.Attribute o m apos) (e :: es) [] pos) X.env = (do
      let ov ← eval o X.env
      standAt apos.atName
      let (f, first) ← holding [ov] (getMethod ov m pl)
      callWith pos f first (backTo pos (starEach (e :: es) X.env)) (backToKw pos (keywordEach [] X.env))) := by rfl) :
    PE X (.Call (.Attribute o m apos) (e :: es) [] pos) (tCall sp [] E t) := by
  obtain ⟨f, fd, h1, h2, h3, h4, h5, h6⟩ := F.ex
  refine ⟨fun pins s σ H Q I h => ?_⟩
  refine PySem.W.methodCall_KW (pl := pl) (thn (he.run pins s σ H (fun x H1 => x = .ref C ∧ H1 = H) I ⟨rfl, rfl⟩) fun u s1 ⟨x, H1, I1, rx, ex, eh⟩ => ?_) ht
  subst ex eh
  obtain rfl : u = Value.ref C := rx
  refine PySem.W.method_cls I1.kIn h2 (PySem.W.cls_value I1.kIn h1 h3 rfl ?_)
  have I2 := I1.tok (s1.toks + 1)
  refine PySem.W.callWith_K (first := []) (h₀ := X.base) I.ok.mod.kin h4 (thn (ha.run pos pins _ σ H1 _ I2 h) fun us s2 ⟨vs, H2, I3, r, q2⟩ => ⟨I3.kIn, ?_⟩) hst hpl
  exact run_fn (us := us) (vs := vs) (dvs := []) (ds := []) h6 (hr.mono hj) h5 .nil hx I3 r q2

/-! ## what lets nothing out is calm -/
section
variable {P : Program} {w : World} {K : PySem.W.Frag} {mg : Str → Option Value} {base : Heap} {k : Nat} {ps : List Str} {sp : Sp}
theorem fnOk_calm {f : Addr} {fd : FuncData} (F : FnOk P w K mg base (L2.CX P w) k f fd ps sp) : FnOk P w K mg base CX0 k f fd ps (fun vs H Q _ => sp vs H Q E0) := by
  refine ⟨fun vs H Q E h => F.len vs H Q E0 h, fun A outer s H args us vs Q E hr e0 hb r h => ?_⟩
  refine codeAny_mono (F.run A outer s H args us vs Q E0 hr e0 hb r h) fun r s' z => ?_
  match r, z with
  | .error e, z =>
    obtain ⟨_, _, _, _, _, _, _, _, _, _, _, _, z⟩ := z
    exact z.elim
  | .ok (.ret u), z => exact z
  | .ok .next, z => exact z
  | .ok .brk, z => exact z
  | .ok .cont, z => exact z
theorem FnAt.calm {x : Str} (F : FnAt P w K mg base (L2.CX P w) x k ps sp) : FnAt P w K mg base CX0 x k ps (fun vs H Q _ => sp vs H Q E0) := by
  obtain ⟨f, fd, h1, h2, h3, h4⟩ := F.ex
  exact ⟨f, fd, h1, h2, h3, fnOk_calm h4⟩
theorem MakAt.calm {x : Str} {C : Addr} (F : MakAt P w K mg base (L2.CX P w) x C k ps sp) : MakAt P w K mg base CX0 x C k ps (fun vs H Q _ => sp vs H Q E0) := by
  obtain ⟨f, fd, h1, h2, h3, h4⟩ := F.ex
  exact ⟨f, fd, h1, h2, h3, fnOk_calm h4⟩
end
theorem DispAt.calm {P : Program} {w : World} {K : PySem.W.Frag} {mg : Str → Option Value} {base : Heap} {k : Nat} {ps : List Str} {T : Addr → Prop} {m : Str} {sp : Addr → Sp} (F : DispAt P w K mg base (L2.CX P w) T m k ps sp) : DispAt P w K mg base CX0 T m k ps (fun C vs H Q _ => sp C vs H Q E0) :=
  ⟨fun C t => let ⟨f, fd, h1, h2, h3, h4⟩ := F.ex C t; ⟨f, fd, h1, h2, h3, fnOk_calm h4⟩⟩
theorem call_isStr {X : Cx} : CallR X (.builtin "isinstance") (rIsF "str" isStrV) :=
  call_isF (by decide +kernel) (fun _ => (by decide +kernel : kitB "bool" "str" = some false)) (fun _ => (by decide +kernel : kitB "int" "str" = some false)) fun _ => (by decide +kernel : kitB "str" "str" = some true)
/-! ## two lists, one by the other -/
inductive Two {α : Type} (R : V → α → Prop) : List V → List α → Prop
  | nil : Two R [] []
  | cons {v : V} {vs : List V} {c : α} {cs : List α} (h : R v c) (t : Two R vs cs) : Two R (v :: vs) (c :: cs)
section
variable {α : Type} {R S : V → α → Prop}
theorem Two.mono (k : ∀ v c, R v c → S v c) : ∀ {vs : List V} {cs : List α}, Two R vs cs → Two S vs cs
  | _, _, .nil => .nil
  | _, _, .cons h t => .cons (k _ _ h) (t.mono k)
theorem Two.length : ∀ {vs : List V} {cs : List α}, Two R vs cs → vs.length = cs.length
  | _, _, .nil => rfl
  | _, _, .cons _ t => by rw [List.length_cons, List.length_cons, t.length]
theorem Two.at : ∀ {vs : List V} {cs : List α} {i : Nat} {v : V}, Two R vs cs → vs[i]? = some v → ∃ c, cs[i]? = some c ∧ R v c
  | _, _, i, v, .nil, h => by simp at h
  | _, _, 0, v, .cons p t, h => by
    simp at h
    subst h
    exact ⟨_, rfl, p⟩
  | _, _, i + 1, v, .cons p t, h => by
    obtain ⟨c, h1, h2⟩ := Two.at (i := i) (v := v) t (by simpa using h)
    exact ⟨c, by simpa using h1, h2⟩
theorem Two.app : ∀ {vs us : List V} {cs ds : List α}, Two R vs cs → Two R us ds → Two R (vs ++ us) (cs ++ ds)
  | _, _, _, _, .nil, q => q
  | _, _, _, _, .cons p t, q => .cons p (t.app q)
theorem Two.take : ∀ {vs : List V} {cs : List α} (i : Nat), Two R vs cs → Two R (vs.take i) (cs.take i)
  | _, _, 0, _ => by rw [List.take_zero, List.take_zero]; exact .nil
  | _, _, _ + 1, .nil => .nil
  | _, _, i + 1, .cons p t => .cons p (t.take i)
theorem Two.drop : ∀ {vs : List V} {cs : List α} (i : Nat), Two R vs cs → Two R (vs.drop i) (cs.drop i)
  | _, _, 0, h => h
  | _, _, _ + 1, .nil => .nil
  | _, _, i + 1, .cons p t => t.drop i
theorem Two.one {v : V} {c : α} (h : R v c) : Two R [v] [c] := .cons h .nil
end
/-- a tuple: one that was made, or a given one -/
def Tp (K : PySem.W.Frag) (H : Hp) (a : Addr) (xs : List V) : Prop := H a = some (.tup xs) ∨ ∀ H', SqT K H' a xs
theorem Tp.seq {K : PySem.W.Frag} {H : Hp} {a : Addr} {xs : List V} (h : Tp K H a xs) : SqT K H a xs := by
  rcases h with h | h
  · exact SqT.of h
  · exact h H
theorem Tp.mono {T : Addr → Prop} {K : PySem.W.Frag} {H H' : Hp} {a : Addr} {xs : List V} (k : Imm T H H') (h : Tp K H a xs) : Tp K H' a xs := by
  rcases h with h | h
  · exact .inl (k _ _ h trivial)
  · exact .inr h
theorem Imm.less {T S : Addr → Prop} {H H' : Hp} (l : ∀ C, S C → T C) (k : Imm T H H') : Imm S H H' := fun b o e i => k b o e (by
  cases o <;> first | exact i | exact l _ i)
theorem op_inK {X : Cx} (K : PySem.W.Frag) (h : X.K = K) : OpR X (compareOp .In) (rIn K false) := h ▸ op_in_seq
theorem op_notInK {X : Cx} (K : PySem.W.Frag) (h : X.K = K) : OpR X (compareOp .NotIn) (rIn K true) := h ▸ op_notIn_seq
/-! ## if: the test's end is told once, for both suites -/
def tIfG (c : TT) (t u : TS) : TS := fun D σ H => ∃ R : Bool → Hp → Prop, c σ H R ∧ ∀ b H', R b H' → if b = true then t D σ H' else u D σ H'
theorem ps_ifG {X : Cx} {c : Expr} {a b : List Stmt} {tc : TT} {t u : TS} {pos : Pos} (hc : PT X c tc) (ha : PSs X a t) (hb : PSs X b u) : PS X (.If c a b pos) (tIfG tc t u) := by
  refine ⟨fun pins s σ H D I h => ?_⟩
  obtain ⟨R, h, k⟩ := h
  refine wpAny_If (thn (hc.run pins s σ H _ I h) fun d s1 ⟨H1, I1, q1⟩ => ?_)
  have k := k d H1 q1
  cases d with
  | true => exact ha.run pins s1 σ H1 D I1 k
  | false => exact hb.run pins s1 σ H1 D I1 k
theorem cutV_neg_to (l : List V) (n : Nat) (h1 : 1 ≤ n) (h2 : n ≤ l.length) : cutV l none (some (-(n : Int))) = l.take (l.length - n) := by
  unfold cutV
  rw [HT.sIx_none, List.drop_zero, Nat.sub_zero]
  congr 1
  show (if -(n : Int) < 0 then (-(n : Int) + (l.length : Int)).toNat else min (-(n : Int)).toNat l.length) = _
  rw [if_pos (by omega)]
  omega
theorem cutV_neg_from (l : List V) (n : Nat) (h1 : 1 ≤ n) (h2 : n ≤ l.length) : cutV l (some (-(n : Int))) none = l.drop (l.length - n) := by
  have e : HT.sIx l.length 0 (some (-(n : Int))) = l.length - n := by
    show (if -(n : Int) < 0 then (-(n : Int) + (l.length : Int)).toNat else min (-(n : Int)).toNat l.length) = _
    rw [if_pos (by omega)]
    omega
  unfold cutV
  rw [HT.sIx_none, e, List.take_of_length_le (by rw [List.length_drop]; omega)]
end Ru

set_option Elab.async false
set_option linter.all false
set_option maxRecDepth 100000
/-! len(set(xs)), xs a list or a tuple of texts, any of them twice -/
namespace Ru
open PySem PySem.Spec PyProof.Rows
/-- how many unlike ones stand among the first i -/
def cntS (xs : List Str) : Nat → Nat
  | 0 => 0
  | i + 1 => if (xs.take i).any (· == xs.getD i Str.empty) = true then cntS xs i else cntS xs i + 1
theorem cntS_le (xs : List Str) : ∀ i, cntS xs i ≤ i
  | 0 => Nat.le_refl _
  | i + 1 => by
    have := cntS_le xs i
    rw [cntS]
    split <;> omega
theorem cntS_take (xs : List Str) : ∀ i, i ≤ xs.length → (cntS xs i = i ↔ (xs.take i).Nodup)
  | 0, _ => by simp [cntS]
  | i + 1, h => by
    have ih := cntS_take xs i (by omega)
    have hl := cntS_le xs i
    have e1 : xs.getD i Str.empty = xs[i] := by rw [List.getD_eq_getElem?_getD, List.getElem?_eq_getElem (by omega)]; rfl
    have e2 : xs.take (i + 1) = xs.take i ++ [xs[i]] := by rw [List.take_add_one, List.getElem?_eq_getElem (by omega)]; rfl
    rw [cntS, e1, e2, List.nodup_append]
    by_cases hm : xs[i] ∈ xs.take i
    · have ha : ((xs.take i).any fun x => x == xs[i]) = true := List.any_eq_true.mpr ⟨_, hm, beq_self_eq_true _⟩
      rw [if_pos ha]
      constructor
      · intro q; omega
      · intro q; exact absurd rfl (q.2.2 _ hm _ (List.mem_singleton.mpr rfl))
    · have ha : ¬ ((xs.take i).any fun x => x == xs[i]) = true := fun q => by
        obtain ⟨y, hy, ey⟩ := List.any_eq_true.mp q
        rw [eq_of_beq ey] at hy
        exact hm hy
      rw [if_neg ha]
      constructor
      · intro q
        refine ⟨ih.mp (by omega), by simp, fun a ha b hb e => ?_⟩
        rw [List.mem_singleton.mp hb] at e
        exact hm (e ▸ ha)
      · intro q
        have := ih.mpr q.1
        omega
theorem cntS_all (xs : List Str) : cntS xs xs.length = xs.length ↔ xs.Nodup := by
  have := cntS_take xs xs.length (Nat.le_refl _)
  rwa [List.take_length] at this
section
variable {prog : Program} {w : World} {A : Around} {I : Addr} {fp wr : List Addr} {n : Nat} {P : Nat → Value → Prop} {St : Nat → Heap → Prop}
/-- the set at S bears the first i of xs -/
def BearsS (prog : Program) (w : World) (h : Heap) (S : Addr) (xs : List Str) (i : Nat) : Prop := h.SetOf (PySem.strKind prog w) S (fun z => (xs.take i).any (· == z)) (cntS xs i)
theorem BearsS.keep {h h' : Heap} {S : Addr} {xs : List Str} {i : Nat} (q : BearsS prog w h S xs i) (k : ∀ o, h.get? S = some o → h'.get? S = some o) : BearsS prog w h' S xs i := by
  obtain ⟨o, es, ep, t, ho, r⟩ := q
  exact ⟨o, es, ep, t, k o ho, r⟩
theorem any_snoc (l : List Str) (x z : Str) : (l ++ [x]).any (· == z) = (l.any (· == z) || decide (z = x)) := by
  rw [List.any_append]
  congr 1
  by_cases e : z = x
  · subst e; simp
  · rw [decide_eq_false e]
    simp only [List.any_cons, List.any_nil, Bool.or_false]
    exact beq_eq_false_iff_ne.mpr fun q => e q.symm
/-- the loop of set.update over n texts -/
theorem loopTexts (W : Walks prog w A.in1 I fp wr n P St) (S : Addr) (hSf : S ∉ fp) (xs : List Str) (hsz : xs.length = n) (hn1 : n + 1 < scanBound) (hval : ∀ i v, P i v → ∃ t, v = .str (xs.getD i Str.empty) t)
    {R : Result → Shared → Prop} : ∀ (k i : Nat) (s : Shared), i + k = n → St i s.heap → BearsS prog w s.heap S xs i →
      (∀ h' tk, BearsS prog w h' S xs n → (∀ b o, b ≠ S → b ∉ wr → s.heap.get? b = some o → h'.get? b = some o) → R (.ok (.ret .none)) { s with heap := h', toks := tk }) →
      codeAny (model prog w) A (.builtin "set.update.loop" ⟨[.ref S, .ref I], []⟩) R s
  | 0, i, s, hk, hst, hS, hR => by
    obtain rfl : i = n := by omega
    refine codeAny_builtin PyProof.Rows.F.entry_set_update_loop ?_
    rw [Around.under_plainId PyProof.Rows.F.plain_set_update_loop _]
    show wpAny _ A.in1 (pyNext (.ref I) >>= _) _ _ s
    refine wpAny_bind (W.done s _ _ hst fun h' tk hm => ?_)
    show wpAny _ A.in1 (ret Value.none) _ _ _
    exact wpAny_pure (hR h' tk (hS.keep fun o e => hm S o (fun q => hSf (W.sub _ q)) e) fun b o _ hb e => hm b o hb e)
  | k + 1, i, s, hk, hst, hS, hR => by
    have hlt : i < xs.length := by omega
    refine codeAny_builtin PyProof.Rows.F.entry_set_update_loop ?_
    rw [Around.under_plainId PyProof.Rows.F.plain_set_update_loop _]
    show wpAny _ A.in1 (pyNext (.ref I) >>= _) _ _ s
    refine wpAny_bind (W.item i s _ _ (by omega) hst fun v h1 tk1 hP st1 hm => ?_)
    obtain ⟨t, rfl⟩ := hval i v hP
    have hS1 : BearsS prog w h1 S xs i := hS.keep fun o e => hm S o (fun q => hSf (W.sub _ q)) e
    show wpAny _ A.in1 (holding [Value.str (xs.getD i Str.empty) t] (setAdd S (.str (xs.getD i Str.empty) t)) >>= _) _ _ _
    refine wpAny_bind (wpAny_holding ?_)
    unfold setAdd
    refine wpAny_holding (wpAny_bind ((PySem.strKind prog w).pyHash (k := xs.getD i Str.empty) (PySem.strKind_is _ _ _ _) ?_))
    have hc := cntS_le xs i
    refine wpAny_setAddHashed_of (knd := PySem.strKind prog w) (PySem.strKind_is _ _ _ _) rfl hS1 (by unfold scanBound at hn1 ⊢; omega) fun h2 sb new => ?_
    have e1 : xs.take (i + 1) = xs.take i ++ [xs.getD i Str.empty] := by
      rw [List.take_add_one, List.getD_eq_getElem?_getD, List.getElem?_eq_getElem hlt]
      rfl
    have hS2 : BearsS prog w h2 S xs (i + 1) := by
      refine PyProof.Rows.SetOf_congr new (fun z => ?_) ?_
      · rw [e1, any_snoc]
      · rw [cntS]
    refine wpAny_pure ⟨plainId_quiet PyProof.Rows.F.plain_set_update_loop _, loopTexts W S hSf xs hsz hn1 hval k (i + 1) _ (by omega) (W.frame _ h1 _ st1 fun b hb o e => ?_) hS2 fun h3 tk3 hS3 hm3 => ?_⟩
    · exact (sb.2 b fun q => hSf (q ▸ hb)).trans e
    · exact hR h3 tk3 hS3 fun b o n1 n2 e => hm3 b o n1 n2 ((sb.2 b n1).trans (hm b o n2 e))
end
section
variable {prog : Program} {w : World} {A : Around} {E : Value → Shared → Prop} {s : Shared}
set_option maxHeartbeats 3200000 in
/-- set(xs), xs the list or the tuple at l -/
theorem call_setTexts {l : Addr} {items : Array Value} {xs : List Str} {Q : Value → Shared → Prop} (hh : A.handled = none) (hl : s.heap.IsList l items ∨ s.heap.IsTuple l items) (hi : PyProof.Rows.StrsAre items.toList xs) (hn1 : xs.length + 1 < scanBound)
    (h : ∀ (h' : Heap) (tk : Nat), BearsS prog w h' s.heap.objs.size xs xs.length → (∀ b o, b < s.heap.objs.size → s.heap.get? b = some o → h'.get? b = some o) → Q (.ref s.heap.objs.size) { s with heap := h', toks := tk }) :
    wpAny (model prog w) A (call (.type "set") [.ref l]) Q E s := by
  have hlen : xs.length = items.size := by rw [← PyProof.Rows.StrsAre.len_eq hi, Array.length_toList]
  have hval : ∀ (i : Nat) (v : Value), items[i]? = some v → ∃ t, v = .str (xs.getD i Str.empty) t := fun i v hv => SS.strs_at hi i v (by rw [Array.getElem?_toList]; exact hv)
  obtain ⟨c, tl, hmro⟩ := PySem.F.called_set.mro
  have hmade := PySem.F.called_set.made
  have hsub := PySem.F.called_set.sub
  refine wpAny_call (codeAny_of_tree ?_)
  show wpAny _ _ (callAny (.type "set") _) _ _ _
  refine wpAny_pure ⟨Code.quiet_builtin _ (by decide +kernel), codeAny_builtin PySem.F.entry_type_call ?_⟩
  rw [Around.under_plain (weight_type_call_type "set" [.ref l] []) rfl]
  have h1 := PySem.F.called_set.notType
  have h2 := PySem.F.called_set.canCreate
  have hct := PySem.F.typeCall_set_1 (.ref l)
  repeat (any_goals (first | assumption | wp_step))
  refine codeAny_mono (code_set_new_1 (.ref l) (E := E) (Q₁ := fun obj s₁ => ∃ led : Bool, obj = .ref s.heap.objs.size ∧ s₁ = { s with heap := s.heap.push { cls := .type "set", dict := none, data := .set #[] 0 (.fresh 0 0 led) } }) fun led => ⟨led, rfl, rfl⟩) fun r s₁ hr => ?_
  match r, hr with
  | .error e, hr => exact hr
  | .ok .next, hr => exact hr.elim
  | .ok .brk, hr => exact hr.elim
  | .ok .cont, hr => exact hr.elim
  | .ok (.ret obj), hr =>
    obtain ⟨led, rfl, rfl⟩ := hr
    have hS : (s.heap.push { cls := .type "set", dict := none, data := .set #[] 0 (.fresh 0 0 led) }).get? s.heap.objs.size = some { cls := .type "set", dict := none, data := .set #[] 0 (.fresh 0 0 led) } := Heap.get?_push_size _ rfl
    generalize eS : ({ cls := .type "set", dict := none, data := .set #[] 0 (.fresh 0 0 led) } : Obj) = oS at hS ⊢
    have hT : Shared.TypeIs { s with heap := s.heap.push oS } (.ref s.heap.objs.size) "set" := ⟨_, hS, by rw [← eS]⟩
    have hli := PySem.F.called_set.init.lookup
    have hbi := PySem.F.called_set.init.bind (.ref s.heap.objs.size)
    have hh3 : A.in1.in1.in1.handled = none := by simp [hh]
    repeat (any_goals (first | assumption | wp_step))
    refine codeAny_mono (codeAny_call_builtin (R := wants (fun r s₂ => r = .none ∧ ∃ h' tk, s₂ = { s with heap := h', toks := tk } ∧ BearsS prog w h' s.heap.objs.size xs xs.length ∧
        (∀ b o, b < s.heap.objs.size → s.heap.get? b = some o → h'.get? b = some o)) E) PySem.F.called_set.init.plain PySem.F.entry_set_init (check_set_init_1 hT ?_)) fun r₂ s₂ hr₂ => ?_
    · have fin : ∀ (oi : Obj) {St : Nat → Heap → Prop}, l < s.heap.objs.size → Walks prog w A.in1.in1.in1 (s.heap.push oS).objs.size [(s.heap.push oS).objs.size, l] [(s.heap.push oS).objs.size] items.size (fun i v => items[i]? = some v) St →
          St 0 ((s.heap.push oS).push oi) → ∀ R : Result → Shared → Prop, (∀ h' tk, BearsS prog w h' s.heap.objs.size xs xs.length → (∀ b o, b < s.heap.objs.size → s.heap.get? b = some o → h'.get? b = some o) → R (.ok (.ret .none)) { s with heap := h', toks := tk }) →
          codeAny (model prog w) A.in1.in1 (.builtin "set.update.loop" ⟨[.ref s.heap.objs.size, .ref (s.heap.push oS).objs.size], []⟩) R { s with heap := (s.heap.push oS).push oi } := by
        intro oi St hlS W st R hR
        have hz : (s.heap.push oS).objs.size = s.heap.objs.size + 1 := Heap.size_push ..
        have hget : ((s.heap.push oS).push oi).get? s.heap.objs.size = some oS := Heap.get?_push_of_some _ hS
        have nS : s.heap.objs.size ∉ [(s.heap.push oS).objs.size, l] := by
          rw [hz]
          simp only [List.mem_cons, List.not_mem_nil, or_false, not_or]
          exact ⟨Nat.ne_of_lt (Nat.lt_succ_self _), Nat.ne_of_gt hlS⟩
        refine loopTexts W s.heap.objs.size nS xs hlen (by rw [← hlen]; exact hn1) hval items.size 0 _ (by omega) st ?_ fun h' tk hb hk => ?_
        · subst eS
          exact PyProof.Rows.SetOf_congr ((PyProof.Rows.setObjOf_fresh (knd := PySem.strKind prog w) led).setOf hget (by unfold scanBound; omega)) (fun _ => rfl) rfl
        · rw [← hlen] at hb
          refine hR h' tk hb fun b o hlt e => hk b o (Nat.ne_of_lt hlt) (by rw [hz]; simp only [List.mem_cons, List.not_mem_nil, or_false]; exact Nat.ne_of_lt (Nat.lt_succ_of_lt hlt)) (Heap.get?_push_of_some _ (Heap.get?_push_of_some _ e))
      have hne1 : ∀ {c : Addr}, c < s.heap.objs.size → c ≠ (s.heap.push oS).objs.size := fun hc => by
        rw [Heap.size_push]; exact Nat.ne_of_lt (Nat.lt_succ_of_lt hc)
      rcases hl with hl | hl
      · obtain ⟨ol, hol, hcl, nl, hdl⟩ := hl
        obtain ⟨ocls, odict, odata, oslots⟩ := ol
        simp only at hcl hdl
        subst hcl hdl
        have hol' := Heap.get?_push_of_some oS hol
        have hl1 : (s.heap.push oS).IsList l items := ⟨_, hol', rfl, nl, rfl⟩
        have hlS : l < s.heap.objs.size := Heap.lt_size hol
        have k1 := PySem.F.sub_list_set
        have k2 := PySem.F.sub_list_frozenset
        have k3 : (Value.type "list" == Value.type "dict") = false := by decide
        subst eS
        unfold Builtin.«set.__init__» noKeywords Builtin.Frozenset.updateFrom
        generalize hPI : pyIter = PI
        wp_walk
        subst hPI
        refine wpAny_pyIter_list hl1 ?_
        refine wpAny_bind (wpAny_runValue ?_)
        refine fin _ hlS (Walks.list hh3 _ l (hne1 hlS) items) ⟨⟨_, Heap.get?_push_size _ rfl, rfl, rfl⟩, (hl1.push _)⟩ _ fun h' tk hb hk => ?_
        show wpAny _ _ _ _ _ _
        refine wpAny_pure ?_
        show wpAny _ _ (ret Value.none) _ _ _
        exact wpAny_pure ⟨rfl, h', tk, rfl, hb, hk⟩
      · obtain ⟨ol, hol, hcl, nl, hdl⟩ := hl
        obtain ⟨ocls, odict, odata, oslots⟩ := ol
        simp only at hcl hdl
        subst hcl hdl
        have hol' := Heap.get?_push_of_some oS hol
        have hl1 : (s.heap.push oS).IsTuple l items := ⟨_, hol', rfl, nl, rfl⟩
        have hlS : l < s.heap.objs.size := Heap.lt_size hol
        have k1 := PySem.F.sub_tuple_set
        have k2 := PySem.F.sub_tuple_frozenset
        have k3 : (Value.type "tuple" == Value.type "dict") = false := by decide
        subst eS
        unfold Builtin.«set.__init__» noKeywords Builtin.Frozenset.updateFrom
        generalize hPI : pyIter = PI
        wp_walk
        subst hPI
        refine wpAny_pyIter_tuple hl1 ?_
        refine wpAny_bind (wpAny_runValue ?_)
        refine fin _ hlS (Walks.tuple hh3 _ l (hne1 hlS) items) ⟨⟨_, Heap.get?_push_size _ rfl, rfl, rfl⟩, (hl1.push _)⟩ _ fun h' tk hb hk => ?_
        show wpAny _ _ _ _ _ _
        refine wpAny_pure ?_
        show wpAny _ _ (ret Value.none) _ _ _
        exact wpAny_pure ⟨rfl, h', tk, rfl, hb, hk⟩
    · match r₂, hr₂ with
      | .error e, hr₂ => exact hr₂
      | .ok .next, hr₂ => exact hr₂.elim
      | .ok .brk, hr₂ => exact hr₂.elim
      | .ok .cont, hr₂ => exact hr₂.elim
      | .ok (.ret r), hr₂ =>
        obtain ⟨rfl, h', tk, rfl, hS', hk'⟩ := hr₂
        repeat (any_goals (first | assumption | wp_step))
        exact h _ _ hS' hk'
end
/-! ### len(set(xs)) -/
def tLenSetS (K : PySem.W.Frag) (ta : L2.TE) : L2.TE := fun σ H Q => ta σ H fun x H1 => ∃ l, ∃ xs : List Str, x = .ref l ∧ (L2.SqL K H1 l (xs.map L2.V.str) ∨ L2.SqT K H1 l (xs.map L2.V.str)) ∧ xs.length ≤ 1000 ∧ ∀ n : Nat, n ≤ xs.length → (n = xs.length ↔ xs.Nodup) → Q (.int n) H1
open L2 in
theorem pe_lenSetS {X : Cx} {a : Expr} {ta : TE} {p p2 q pos : Pos} (hc : X.calm = true) (hg : Gl X "len") (hm : X.mg "len" = none) (hg2 : Gl X "set") (hm2 : X.mg "set" = none) (ha : PE X a ta)
    (na : starEach [a] X.env = (false, eval a X.env) :: starEach [] X.env := by rfl) : PE X (.Call (.Name "len" p) [.Call (.Name "set" p2) [a] [] q] [] pos) (tLenSetS X.K ta) := by
  refine ⟨fun pins s σ H Q I h => ?_⟩
  refine Call_ (ld_blt I hg hm boot_len ?_)
  refine PyProof.Rows.callWith_builtin1 (PyProof.Rows.args_cons ?_ rfl) rfl rfl
  refine Call_ (ld_blt I hg2 hm2 boot_set ?_)
  refine PyProof.Rows.callWith_type1 (PyProof.Rows.args_cons (thn (ha.run pins s σ H _ I h) fun v s1 ⟨x, H1, I1, r1, q1⟩ => PyProof.Rows.args_nil ?_) na) na rfl
  obtain ⟨l, xs, rfl, hq, hn, q1⟩ := q1
  cases r1
  have fin : ∀ (h' : Heap) (tk : Nat), BearsS X.prog X.w h' s1.heap.objs.size xs xs.length → (∀ b o, b < s1.heap.objs.size → s1.heap.get? b = some o → h'.get? b = some o) →
      wpAny (model X.prog X.w) X.A (spliced (backTo pos (starEach [] X.env))) (fun vs s₂ => wpAny (model X.prog X.w) X.A (call (.builtin "len") (Value.ref s1.heap.objs.size :: vs)) (EP X pins σ Q) X.xe s₂) X.xe { s1 with heap := h', toks := tk } := by
    intro h' tk hS hk
    refine PyProof.Rows.args_nil ?_
    obtain ⟨o, es, ep, t, ho, hex, hd, _, _, _, hf, hcn⟩ := hS
    have I2 : Inv X pins σ H1 { s1 with heap := h', toks := tk } := I1.kept fun b o e => hk b o (Heap.lt_size e) e
    have hle := cntS_le xs xs.length
    refine call_len_set ho hex hd hf (by rw [hcn]; omega) ⟨.int (cntS xs xs.length : Nat), H1, I2.tok _, ⟨_, by rw [hcn]⟩, q1 _ hle (cntS_all xs)⟩
  have hb : xs.length + 1 < scanBound := by unfold scanBound; omega
  rcases hq with hq | hq
  · obtain ⟨its, r, pl, hz⟩ := I1.list hq
    exact call_setTexts (I1.ok.hd hc) (.inl pl.isList) (by simpa using strsAre_of r) hb fin
  · obtain ⟨its, r, pl, hz⟩ := I1.tuple hq
    exact call_setTexts (I1.ok.hd hc) (.inr pl) (by simpa using strsAre_of r) hb fin
end Ru

set_option Elab.async false
set_option linter.all false
set_option maxRecDepth 100000
set_option maxHeartbeats 2000000
/-! zip of a tuple and a list: by what each iterator's next does, whichever it is -/
namespace Ru
open PySem PySem.Spec PyProof.Rows L2
/-- the iterator at i over ys, which stand at l; P: it stands at a place -/
structure Dr (prog : Program) (w : World) (i l : Addr) (ys : Array Value) (P : Heap → Nat → Prop) : Prop where
  keep : ∀ {e : Addr} {h h' : Heap} {k : Nat}, P h k → Heap.ExtBut e h h' → i ≠ e → l ≠ e → P h' k
  item : ∀ {A : Around} {E : Value → Shared → Prop} {s : Shared} {k : Nat} {y : Value} {Q : Value → Shared → Prop}, P s.heap k → ys[k]? = some y →
    (∀ h', P h' (k + 1) → Heap.SameBut i s.heap h' → Q y { s with heap := h' }) → wpAny (model prog w) A (Builtin.SmallTypes.nextOf (.ref i)) Q E s
  stop : ∀ {A : Around} {E : Value → Shared → Prop} {s : Shared} {k : Nat} {Q : Value → Shared → Prop}, A.handled = none → P s.heap k → ys[k]? = none →
    (∀ h' e, Heap.ExtBut i s.heap h' → (∃ o, h'.get? e = some o ∧ o.cls = .type "StopIteration") → E (.ref e) { s with heap := h' }) → wpAny (model prog w) A (Builtin.SmallTypes.nextOf (.ref i)) Q E s
theorem dr_tup {prog : Program} {w : World} {i l : Addr} {ys : Array Value} (n : l ≠ i) : Dr prog w i l ys fun h k => h.IsTupleIter i l k ∧ h.IsTuple l ys :=
  ⟨fun p x n1 n2 => ⟨p.1.extBut x n1, p.2.extBut x n2⟩, fun p hy q => RZ.nextOf_tuple_item p.1 p.2 hy fun h' a b => q h' ⟨a, p.2.extBut b.extBut n⟩ b, fun hh p hy q => RZ.nextOf_tuple_end hh p.1 p.2 hy q⟩
theorem dr_lst {prog : Program} {w : World} {i l : Addr} {ys : Array Value} (n : l ≠ i) : Dr prog w i l ys fun h k => h.IsListIter i l k ∧ h.IsList l ys :=
  ⟨fun p x n1 n2 => ⟨p.1.extBut x n1, p.2.extBut x n2⟩, fun p hy q => wpAny_nextOf_list_item p.1 p.2 hy fun h' a b => q h' ⟨a, p.2.extBut b.extBut n⟩ b, fun hh p hy q => wpAny_nextOf_list_end hh p.1 p.2 hy q⟩
section
variable {prog : Program} {w : World} {A : Around} {E : Value → Shared → Prop} {s : Shared} {z TI TO i1 i2 l1 l2 : Addr} {k1 k2 : Nat} {xs ys : Array Value} {x y a b : Value} {P1 P2 : Heap → Nat → Prop}
/-- the zip at z, its parts, as they stand -/
structure Zst (h : Heap) (z TI TO i1 i2 : Addr) (a b : Value) (f : Value) : Prop where
  z : IsZip h z TI TO f
  ti : IsPair h TI (.ref i1) (.ref i2)
  to : IsPair h TO a b
theorem zipD_item {Q : Value → Shared → Prop} (d1 : Dr prog w i1 l1 xs P1) (d2 : Dr prog w i2 l2 ys P2) (D : ZipApart z TI TO i1 i2 l1 l2) (g : Zst s.heap z TI TO i1 i2 a b .none) (p1 : P1 s.heap k1) (p2 : P2 s.heap k2) (hx : xs[k1]? = some x) (hy : ys[k2]? = some y)
    (q : ∀ h', Zst h' z TI TO i1 i2 x y (rawInt s.heap.objs.size) → P1 h' (k1 + 1) → P2 h' (k2 + 1) → IsPair h' s.heap.objs.size x y → (∀ c o, c ≠ z → c ≠ TO → c ≠ i1 → c ≠ i2 → s.heap.get? c = some o → h'.get? c = some o) → Q (.ref s.heap.objs.size) { s with heap := h' })
    (hl1 : l1 < s.heap.objs.size) (hl2 : l2 < s.heap.objs.size) (hi1 : i1 < s.heap.objs.size) (hi2 : i2 < s.heap.objs.size) :
    wpAny (model prog w) A (Builtin.«zip.__next__» ⟨[.ref z], []⟩) (fun fin s' => ∃ v, fin = .done (.ret v) ∧ Q v s') E s := by
  obtain ⟨gz, gi, go⟩ := g
  show wpAny _ _ (field (.ref z) 2 >>= fun _ => _) _ _ s
  refine wpAny_bind (wpAny_field gz rfl (x := .bool false) rfl (wpAny_bind (wpAny_field gz rfl (x := .ref TI) rfl (wpAny_bind (wpAny_seqItems gi rfl (wpAny_bind ?_))))))
  unfold Builtin.SmallTypes.ownedTupleIsFree
  refine wpAny_bind (wpAny_field gz rfl (x := .none) rfl (wpAny_pure ?_))
  rw [if_pos rfl]
  refine wpAny_bind (wpAny_rule (wpAny_bind (wpAny_field gz rfl (x := .ref TO) rfl (wpAny_bind (wpAny_setField_rec gz (by simp) fun ha za sa => ?_)))))
  have za : IsZip ha z TI TO .ellipsis := za
  have p1a := d1.keep p1 sa.extBut D.i1z D.l1z
  have p2a := d2.keep p2 sa.extBut D.i2z D.l2z
  refine wpAny_bind ?_
  simp only [List.zipIdx_cons, List.zipIdx_nil, List.forIn_cons, List.forIn_nil]
  -- the first one
  refine wpAny_bind (wpAny_bind (wpAny_onRaise ?_))
  show wpAny _ _ (Builtin.SmallTypes.nextOf (.ref i1) >>= fun _ => _) _ _ { s with heap := ha }
  refine wpAny_bind (d1.item (s := { s with heap := ha }) p1a hx fun hb p1b sb => wpAny_pure ?_)
  have ob : IsPair hb TO a b := sb.extBut _ _ D.TOi1 (sa.extBut _ _ D.TOz go)
  refine wpAny_bind (wpAny_seqItems ob rfl (wpAny_bind (wpAny_updateSeq_pair ob fun hc oc sc => wpAny_bind (wpAny_letGo (wpAny_pure ?_)))))
  have oc : IsPair hc TO x b := oc
  have p2c := d2.keep (d2.keep p2a sb.extBut D.i12.symm D.l2i1) sc.extBut D.TOi2.symm D.l2TO
  have p1c := d1.keep p1b sc.extBut D.TOi1.symm D.l1TO
  -- the second one
  refine wpAny_bind (wpAny_bind (wpAny_onRaise ?_))
  show wpAny _ _ (Builtin.SmallTypes.nextOf (.ref i2) >>= fun _ => _) _ _ { s with heap := hc }
  refine wpAny_bind (d2.item (s := { s with heap := hc }) p2c hy fun hd p2d sd => wpAny_pure ?_)
  have od : IsPair hd TO x b := sd.extBut _ _ D.TOi2 oc
  refine wpAny_bind (wpAny_seqItems od rfl (wpAny_bind (wpAny_updateSeq_pair od fun he oe se => wpAny_bind (wpAny_letGo (wpAny_pure (wpAny_pure ?_))))))
  have oe : IsPair he TO x y := oe
  have p1e := d1.keep (d1.keep p1c sd.extBut D.i12 D.l1i2) se.extBut D.TOi1.symm D.l1TO
  have p2e := d2.keep p2d se.extBut D.TOi2.symm D.l2TO
  have ze : IsZip he z TI TO .ellipsis := se.extBut _ _ D.TOz.symm (sd.extBut _ _ D.i2z.symm (sc.extBut _ _ D.TOz.symm (sb.extBut _ _ D.i1z.symm za)))
  have ke : ∀ c o, c ≠ z → c ≠ TO → c ≠ i1 → c ≠ i2 → s.heap.get? c = some o → he.get? c = some o := fun c o n1 n2 n3 n4 e => se.extBut _ _ n2 (sd.extBut _ _ n4 (sc.extBut _ _ n2 (sb.extBut _ _ n3 (sa.extBut _ _ n1 e))))
  have size : he.objs.size = s.heap.objs.size := by rw [se.1, sd.1, sc.1, sb.1, sa.1]
  refine wpAny_bind (wpAny_seqItems oe rfl (wpAny_bind (wpAny_newTuple ?_)))
  show wpAny _ _ (Builtin.SmallTypes.ownedTupleHandOut (.ref z) (.ref he.objs.size) >>= fun _ => _) _ _ _
  refine wpAny_bind ?_
  unfold Builtin.SmallTypes.ownedTupleHandOut
  have zf : IsZip (he.push { cls := .type "tuple", data := .seq #[x, y] }) z TI TO .ellipsis := Heap.get?_push_of_some _ ze
  refine wpAny_bind (wpAny_setField_rec zf (by simp) fun hg zg sg => ?_)
  have zg : IsZip hg z TI TO (rawInt he.objs.size) := zg
  refine wpAny_setField_rec zg (by simp) fun hk zk sk => wpAny_pure ⟨_, rfl, ?_⟩
  have zk : IsZip hk z TI TO (rawInt he.objs.size) := zk
  have up : ∀ c o, c ≠ z → he.get? c = some o → hk.get? c = some o := fun c o n e => sk.extBut _ _ n (sg.extBut _ _ n (Heap.get?_push_of_some _ e))
  have zlt : z < he.objs.size := Heap.lt_size ze
  have tk : IsPair hk he.objs.size x y := sk.extBut _ _ (Nat.ne_of_gt zlt) (sg.extBut _ _ (Nat.ne_of_gt zlt) (Heap.get?_push_size _ rfl))
  have ext : Heap.ExtBut z he hk := fun c o n e => up c o n e
  have ti : IsPair hk TI (.ref i1) (.ref i2) := up _ _ D.TIz (ke _ _ D.TIz D.TITO D.TIi1 D.TIi2 gi)
  rw [size] at zk tk
  show Q (.ref he.objs.size) _
  rw [size]
  exact q hk ⟨zk, ti, up _ _ D.TOz oe⟩ (d1.keep p1e ext D.i1z D.l1z) (d2.keep p2e ext D.i2z D.l2z) tk fun c o n1 n2 n3 n4 e => up c o n1 (ke c o n1 n2 n3 n4 e)
theorem zipD_stop {Q : PySem.Fin → Shared → Prop} (hh : A.handled = none) (d1 : Dr prog w i1 l1 xs P1) (d2 : Dr prog w i2 l2 ys P2) (D : ZipApart z TI TO i1 i2 l1 l2) (g : Zst s.heap z TI TO i1 i2 a b .none) (p1 : P1 s.heap k1) (p2 : P2 s.heap k2) (hend : xs[k1]? = none ∨ ys[k2]? = none)
    (q : ∀ h' e, (∀ c o, c ≠ z → c ≠ TO → c ≠ i1 → c ≠ i2 → s.heap.get? c = some o → h'.get? c = some o) → (∃ o, h'.get? e = some o ∧ o.cls = .type "StopIteration") → E (.ref e) { s with heap := h' }) :
    wpAny (model prog w) A (Builtin.«zip.__next__» ⟨[.ref z], []⟩) Q E s := by
  obtain ⟨gz, gi, go⟩ := g
  show wpAny _ _ (field (.ref z) 2 >>= fun _ => _) _ _ s
  refine wpAny_bind (wpAny_field gz rfl (x := .bool false) rfl (wpAny_bind (wpAny_field gz rfl (x := .ref TI) rfl (wpAny_bind (wpAny_seqItems gi rfl (wpAny_bind ?_))))))
  unfold Builtin.SmallTypes.ownedTupleIsFree
  refine wpAny_bind (wpAny_field gz rfl (x := .none) rfl (wpAny_pure ?_))
  rw [if_pos rfl]
  refine wpAny_bind (wpAny_rule (wpAny_bind (wpAny_field gz rfl (x := .ref TO) rfl (wpAny_bind (wpAny_setField_rec gz (by simp) fun ha za sa => ?_)))))
  have za : IsZip ha z TI TO .ellipsis := za
  have p1a := d1.keep p1 sa.extBut D.i1z D.l1z
  have p2a := d2.keep p2 sa.extBut D.i2z D.l2z
  -- the zip is free again, and what next raised goes out
  have out : ∀ {h : Heap} {e : Addr} {R : Unit → Shared → Prop}, IsZip h z TI TO .ellipsis → (∃ o, h.get? e = some o ∧ o.cls = .type "StopIteration") → (∀ c o, c ≠ z → c ≠ TO → c ≠ i1 → c ≠ i2 → s.heap.get? c = some o → h.get? c = some o) →
      (∀ h', R () { s with heap := h' } → True) → (∀ h', (∀ c o, c ≠ z → c ≠ TO → c ≠ i1 → c ≠ i2 → s.heap.get? c = some o → h'.get? c = some o) → (∃ o, h'.get? e = some o ∧ o.cls = .type "StopIteration") → R () { s with heap := h' }) →
      wpAny (model prog w) A (setField (.ref z) 0 .none) R E { s with heap := h } := by
    intro h e R gz ⟨oe, he, hc⟩ kp _ r
    have nz : e ≠ z := fun q => by
      rw [q, gz] at he
      cases he
      exact absurd hc (by simp)
    exact wpAny_setField_rec gz (by simp) fun h' _ sh => r h' (fun c o n1 n2 n3 n4 u => sh.extBut _ _ n1 (kp c o n1 n2 n3 n4 u)) ⟨oe, sh.extBut _ _ nz he, hc⟩
  refine wpAny_bind ?_
  simp only [List.zipIdx_cons, List.zipIdx_nil, List.forIn_cons, List.forIn_nil]
  refine wpAny_bind (wpAny_bind (wpAny_onRaise ?_))
  show wpAny _ _ (Builtin.SmallTypes.nextOf (.ref i1) >>= fun _ => _) _ _ { s with heap := ha }
  cases hx : xs[k1]? with
  | none =>
    refine wpAny_bind (d1.stop (s := { s with heap := ha }) hh p1a hx fun hb e sb st => ?_)
    exact out (sb _ _ D.i1z.symm za) st (fun c o n1 _ n3 _ u => sb _ _ n3 (sa.extBut _ _ n1 u)) (fun _ _ => trivial) fun h' kp st' => q h' e kp st'
  | some x =>
    have hy : ys[k2]? = none := hend.resolve_left fun u => by rw [hx] at u; cases u
    refine wpAny_bind (d1.item (s := { s with heap := ha }) p1a hx fun hb p1b sb => wpAny_pure ?_)
    have ob : IsPair hb TO a b := sb.extBut _ _ D.TOi1 (sa.extBut _ _ D.TOz go)
    refine wpAny_bind (wpAny_seqItems ob rfl (wpAny_bind (wpAny_updateSeq_pair ob fun hc oc sc => wpAny_bind (wpAny_letGo (wpAny_pure ?_)))))
    have p2c := d2.keep (d2.keep p2a sb.extBut D.i12.symm D.l2i1) sc.extBut D.TOi2.symm D.l2TO
    refine wpAny_bind (wpAny_bind (wpAny_onRaise ?_))
    show wpAny _ _ (Builtin.SmallTypes.nextOf (.ref i2) >>= fun _ => _) _ _ { s with heap := hc }
    refine wpAny_bind (d2.stop (s := { s with heap := hc }) hh p2c hy fun hd e sd st => ?_)
    exact out (sd _ _ D.i2z.symm (sc.extBut _ _ D.TOz.symm (sb.extBut _ _ D.i1z.symm za))) st (fun c o n1 n2 n3 n4 u => sd _ _ n4 (sc.extBut _ _ n2 (sb.extBut _ _ n3 (sa.extBut _ _ n1 u)))) (fun _ _ => trivial) fun h' kp st' => q h' e kp st'
theorem pyNext_zipD_item {Q : Option Value → Shared → Prop} (d1 : Dr prog w i1 l1 xs P1) (d2 : Dr prog w i2 l2 ys P2) (D : ZipApart z TI TO i1 i2 l1 l2) (g : Zst s.heap z TI TO i1 i2 a b .none) (p1 : P1 s.heap k1) (p2 : P2 s.heap k2) (hx : xs[k1]? = some x) (hy : ys[k2]? = some y)
    (q : ∀ h', Zst h' z TI TO i1 i2 x y (rawInt s.heap.objs.size) → P1 h' (k1 + 1) → P2 h' (k2 + 1) → IsPair h' s.heap.objs.size x y → (∀ c o, c ≠ z → c ≠ TO → c ≠ i1 → c ≠ i2 → s.heap.get? c = some o → h'.get? c = some o) → Q (some (.ref s.heap.objs.size)) { s with heap := h' })
    (hl1 : l1 < s.heap.objs.size) (hl2 : l2 < s.heap.objs.size) (hi1 : i1 < s.heap.objs.size) (hi2 : i2 < s.heap.objs.size) : wpAny (model prog w) A (pyNext (.ref z)) Q E s := by
  have ty : s.TypeIs (.ref z) "zip" := ⟨_, g.z, rfl⟩
  unfold pyNext
  refine wpAny_bind (wpAny_attempt (wpAny_callSpecial?_slot (name := Str.ofString "__next__") ty PySem.F.slot_zip_next (wpAny_call_entry PySem.F.slot_zip_next ty PySem.F.entry_zip_next ?_ (PySem.F.args_zip_next_1 _))))
  exact zipD_item d1 d2 D g p1 p2 hx hy (fun h' a1 a2 a3 a4 a5 => wpAny_pure (q h' a1 a2 a3 a4 a5)) hl1 hl2 hi1 hi2
theorem pyNext_zipD_stop {Q : Option Value → Shared → Prop} (hh : A.handled = none) (d1 : Dr prog w i1 l1 xs P1) (d2 : Dr prog w i2 l2 ys P2) (D : ZipApart z TI TO i1 i2 l1 l2) (g : Zst s.heap z TI TO i1 i2 a b .none) (p1 : P1 s.heap k1) (p2 : P2 s.heap k2) (hend : xs[k1]? = none ∨ ys[k2]? = none)
    (q : ∀ h', (∀ c o, c ≠ z → c ≠ TO → c ≠ i1 → c ≠ i2 → s.heap.get? c = some o → h'.get? c = some o) → Q none { s with heap := h' }) : wpAny (model prog w) A (pyNext (.ref z)) Q E s := by
  have ty : s.TypeIs (.ref z) "zip" := ⟨_, g.z, rfl⟩
  unfold pyNext
  refine wpAny_bind (wpAny_attempt (wpAny_callSpecial?_slot (name := Str.ofString "__next__") ty PySem.F.slot_zip_next (wpAny_call_entry PySem.F.slot_zip_next ty PySem.F.entry_zip_next (zipD_stop hh d1 d2 D g p1 p2 hend fun h' e kp ⟨o, ho, hc⟩ => ?_) (PySem.F.args_zip_next_1 _))))
  exact wpAny_bind (wpAny_isInstance (T := "StopIteration") (b := true) ⟨o, ho, hc⟩ isSubtype_stop (wpAny_pure (q _ kp)))
end
/-! ### zip of a tuple and a list, made -/
abbrev zH1 (h : Heap) (l : Addr) : Heap := h.push { cls := .type "tuple_iterator", data := .fields #[.ref l, .int 0 0] }
abbrev zH2 (h : Heap) (l m : Addr) : Heap := (zH1 h l).push { cls := .type "list_iterator", data := .fields #[.ref m, .int 0 0] }
abbrev zH3 (h : Heap) (l m : Addr) : Heap := (zH2 h l m).push { cls := .type "tuple", data := .seq #[.ref h.objs.size, .ref (zH1 h l).objs.size] }
abbrev zH4 (h : Heap) (l m : Addr) : Heap := (zH3 h l m).push { cls := .type "tuple", data := .seq #[.none, .none] }
abbrev zH5 (h : Heap) (l m : Addr) : Heap := (zH4 h l m).push { cls := .type "zip", data := .fields #[.none, .bool false, .bool false, .ref (zH2 h l m).objs.size, .ref (zH3 h l m).objs.size] }
theorem meets_zipTL (l m : Addr) (xs ys : Array Value) :
    Meets (Builtin.«zip.__new__» ⟨[.type "zip", .ref l, .ref m], []⟩) (fun _ R s => s.heap.IsTuple l xs ∧ s.heap.IsList m ys ∧ R (.ok (.ret (.ref (zH4 s.heap l m).objs.size))) { s with heap := zH5 s.heap l m }) :=
  .of_wp fun prog w A R s h => by
    obtain ⟨hp, gs, dr, tk, os⟩ := s
    obtain ⟨t1, t2, h⟩ := h
    have sz := sub_zip
    have t1' : Heap.IsTuple (Shared.heap ⟨hp, gs, dr, tk, os⟩) l xs := t1
    have t2' : Heap.IsList (Shared.heap ⟨hp.push { cls := .type "tuple_iterator", data := .fields #[.ref l, .int 0 0] }, gs, dr, tk, os⟩) m ys := Heap.IsList.push t2 _
    wp_walk using wpAny_pyIter_tuple t1', wpAny_pyIter_list t2'
    exact ⟨_, rfl, h⟩
theorem call_zipTL {prog : Program} {w : World} {A : Around} {E : Value → Shared → Prop} {s : Shared} {l m : Addr} {xs ys : Array Value} {Q : Value → Shared → Prop} (t1 : s.heap.IsTuple l xs) (t2 : s.heap.IsList m ys)
    (q : ∀ h', Zst h' (s.heap.objs.size + 4) (s.heap.objs.size + 2) (s.heap.objs.size + 3) s.heap.objs.size (s.heap.objs.size + 1) .none .none .none → h'.IsTupleIter s.heap.objs.size l 0 → h'.IsListIter (s.heap.objs.size + 1) m 0 →
      (∀ c o, s.heap.get? c = some o → h'.get? c = some o) → Q (.ref (s.heap.objs.size + 4)) { s with heap := h' }) : wpAny (model prog w) A (call (.type "zip") [.ref l, .ref m]) Q E s := by
  refine callType_new PySem.F.called_zip (by decide) (PySem.F.typeCall_zip_2 _ _) (PySem.F.newCall_zip_2 _ _) (fun obj => PySem.F.args_object_init_3 obj _ _) PySem.F.entry_zip_new (meets_zipTL l m xs ys) ⟨t1, t2, ?_⟩
  have s1 : (zH1 s.heap l).objs.size = s.heap.objs.size + 1 := Heap.size_push ..
  have s2 : (zH2 s.heap l m).objs.size = s.heap.objs.size + 2 := by rw [Heap.size_push, s1]
  have s3 : (zH3 s.heap l m).objs.size = s.heap.objs.size + 3 := by rw [Heap.size_push, s2]
  have s4 : (zH4 s.heap l m).objs.size = s.heap.objs.size + 4 := by rw [Heap.size_push, s3]
  have up : ∀ {c o}, (zH4 s.heap l m).get? c = some o → (zH5 s.heap l m).get? c = some o := fun e => Heap.get?_push_of_some _ e
  have a5 : (zH5 s.heap l m).get? (zH4 s.heap l m).objs.size = some _ := Heap.get?_push_size _ rfl
  have a4 : (zH5 s.heap l m).get? (zH3 s.heap l m).objs.size = some _ := up (Heap.get?_push_size _ rfl)
  have a3 : (zH5 s.heap l m).get? (zH2 s.heap l m).objs.size = some _ := up (Heap.get?_push_of_some _ (Heap.get?_push_size _ rfl))
  have a2 : (zH5 s.heap l m).get? (zH1 s.heap l).objs.size = some _ := up (Heap.get?_push_of_some _ (Heap.get?_push_of_some _ (Heap.get?_push_size _ rfl)))
  have a1 : (zH5 s.heap l m).get? s.heap.objs.size = some _ := up (Heap.get?_push_of_some _ (Heap.get?_push_of_some _ (Heap.get?_push_of_some _ (Heap.get?_push_size _ rfl))))
  show _ ∧ _
  rw [s2, s3, s4] at a5
  rw [s3] at a4
  rw [s1, s2] at a3
  rw [s1] at a2
  rw [s4]
  refine ⟨⟨_, a5, rfl⟩, q _ ⟨a5, a3, a4⟩ ⟨_, a1, rfl, rfl⟩ ⟨_, a2, rfl, rfl⟩ fun c o e => up (Heap.get?_push_of_some _ (Heap.get?_push_of_some _ (Heap.get?_push_of_some _ (Heap.get?_push_of_some _ e))))⟩
/-! ### the walk over such a zip -/
/-- the tuple at a and the list at b as they stand at each turn -/
def ItzM (K : PySem.W.Frag) (a b : Addr) : It :=
  ⟨fun i H => ∃ (xs ys : List V) (x y : V), (SqT K H a xs ∧ SqL K H b ys) ∧ xs[i]? = some x ∧ ys[i]? = some y,
   fun i H v H' => ∃ t x y, (v = .ref t ∧ H t = none ∧ H' = upd H t (.tup [x, y])) ∧ (∀ xs, SqT K H a xs → xs[i]? = some x) ∧ ∀ ys, SqL K H b ys → ys[i]? = some y,
   fun i H => ∃ xs ys : List V, (SqT K H a xs ∧ SqL K H b ys) ∧ (xs.length ≤ i ∨ ys.length ≤ i)⟩
theorem turn_zipM {P : Program} {w : World} {K : PySem.W.Frag} {elts : List Expr} {kk : Nat} {tpos : Pos} {a b z TI TO i1 i2 : Addr} (D : ZipApart z TI TO i1 i2 a b) :
    Turn P w K (.Tuple elts kk tpos) (ItzM K a b) [z, TI, TO, i1, i2] z (fun i h => (∃ x y, Zst h z TI TO i1 i2 x y .none) ∧ h.IsTupleIter i1 a i ∧ h.IsListIter i2 b i) := by
  have five : ∀ {c : Addr}, c ∈ [z, TI, TO, i1, i2] → c = z ∨ c = TI ∨ c = TO ∨ c = i1 ∨ c = i2 := fun h => by simpa using h
  have off : ∀ {c : Addr}, c ∉ [z, TI, TO, i1, i2] → c ≠ z ∧ c ≠ TI ∧ c ≠ TO ∧ c ≠ i1 ∧ c ≠ i2 := fun h => by simpa using h
  refine ⟨by simp, fun i h st c hc => ?_, fun i h h' st k => ?_, ?_, ?_, fun A i s Q E st h => ?_⟩
  · obtain ⟨⟨x, y, gz, gi, go⟩, ⟨o1, e1, _, d1⟩, o2, e2, _, d2⟩ := st
    rcases five hc with q | q | q | q | q <;> rw [q]
    · exact ⟨_, gz, fun v u => nomatch u⟩
    · exact ⟨_, gi, fun v u => nomatch u⟩
    · exact ⟨_, go, fun v u => nomatch u⟩
    · exact ⟨o1, e1, fun v u => by rw [d1] at u; cases u⟩
    · exact ⟨o2, e2, fun v u => by rw [d2] at u; cases u⟩
  · obtain ⟨⟨x, y, gz, gi, go⟩, n1, n2⟩ := st
    exact ⟨⟨x, y, k z (by simp) _ gz, k TI (by simp) _ gi, k TO (by simp) _ go⟩, n1.at fun o u => k i1 (by simp) o u, n2.at fun o u => k i2 (by simp) o u⟩
  · intro X hP hw hK hc i pins s σ H E I hf st hg
    subst hP hw hK
    obtain ⟨⟨x0, y0, g⟩, n1, n2⟩ := st
    obtain ⟨xs, ys, x, y, ⟨qx, qy⟩, hx, hy⟩ := hg
    obtain ⟨its, rv, pl, _⟩ := I.tuple qx
    obtain ⟨jts, rw', pr, _⟩ := I.list qy
    obtain ⟨u, hu, ru⟩ := rv.get hx
    obtain ⟨v, hv, rv2⟩ := rw'.get hy
    have zl : z < s.heap.objs.size := Heap.lt_size g.z
    have b1 : i1 < s.heap.objs.size := by obtain ⟨_, e, _⟩ := n1; exact Heap.lt_size e
    have b2 : i2 < s.heap.objs.size := by obtain ⟨_, e, _⟩ := n2; exact Heap.lt_size e
    have b3 : a < s.heap.objs.size := by obtain ⟨_, e, _⟩ := pl; exact Heap.lt_size e
    refine pyNext_zipD_item (dr_tup D.l1i1) (dr_lst D.l2i2) D g ⟨n1, pl⟩ ⟨n2, pr.isList⟩ (x := u) (y := v) (by simpa using hu) (by simpa using hv) (fun h' g' m1 m2 ht kp => ?_) b3 pr.lt b1 b2
    refine ⟨_, rfl, wpAny_letOwnedTupleGo_zip (s := { s with heap := h' }) g'.z fun h'' z'' sb => ?_⟩
    have ht2 : h''.get? s.heap.objs.size = some { cls := .type "tuple", data := .seq #[u, v] } := (sb.2 _ (Nat.ne_of_gt zl)).trans ht
    have fresh : ObjOk X.prog X.w (upd H s.heap.objs.size (.tup [x, y])) h'' s.heap.objs.size (.tup [x, y]) := ⟨by show 2 ≤ sizeLine; decide, [u, v], .cons ru (.cons rv2 .nil), ⟨_, ht2, rfl, _, rfl⟩⟩
    have I1 : Inv X pins σ (upd H s.heap.objs.size (.tup [x, y])) { s with heap := h'' } :=
      I.turnedNew (t' := s.toks) (ch := [z, TI, TO, i1, i2]) (fun c o hb e => (sb.2 c (off hb).1).trans (kp c o (off hb).1 (off hb).2.2.1 (off hb).2.2.2.1 (off hb).2.2.2.2 e)) hf (Nat.le_refl _) fresh
    refine ⟨.ref s.heap.objs.size, _, I1, rfl, ⟨_, x, y, ⟨rfl, I.hok.fresh (Nat.le_refl _), rfl⟩, fun l hl => by rw [I.tuple_inj hl qx]; exact hx, fun l hl => by rw [I.list_inj hl qy]; exact hy⟩, ⟨⟨u, v, z'', ?_, ?_⟩, ?_, ?_⟩, fun c hcm => ?_⟩
    · exact (sb.2 _ D.TIz).trans g'.ti
    · exact (sb.2 _ D.TOz).trans g'.to
    · exact m1.1.at fun o e => (sb.2 _ D.i1z).trans e
    · exact m2.1.at fun o e => (sb.2 _ D.i2z).trans e
    · have hlt : c < s.heap.objs.size := by
        rcases five hcm with q | q | q | q | q <;> rw [q]
        · exact zl
        · exact Heap.lt_size g.ti
        · exact Heap.lt_size g.to
        · exact b1
        · exact b2
      rw [upd_ne (Nat.ne_of_lt hlt)]
      exact (hf c hcm).1
  · intro X hP hw hK hc i pins s σ H E I hf st hg
    subst hP hw hK
    obtain ⟨⟨x0, y0, g⟩, n1, n2⟩ := st
    obtain ⟨xs, ys, ⟨qx, qy⟩, hend⟩ := hg
    obtain ⟨its, rv, pl, _⟩ := I.tuple qx
    obtain ⟨jts, rw', pr, _⟩ := I.list qy
    have e1 := rv.length
    have e2 := rw'.length
    have he : its.toArray[i]? = none ∨ jts.toArray[i]? = none := hend.imp (fun q => by simp; omega) fun q => by simp; omega
    exact pyNext_zipD_stop (I.ok.hd hc) (dr_tup D.l1i1) (dr_lst D.l2i2) D g ⟨n1, pl⟩ ⟨n2, pr.isList⟩ he fun h' kp => ⟨rfl, I.turnedL (t' := s.toks) (ch := [z, TI, TO, i1, i2]) (fun c o hb e => kp c o (off hb).1 (off hb).2.2.1 (off hb).2.2.2.1 (off hb).2.2.2.2 e) hf⟩
  · obtain ⟨⟨x, y, g⟩, _⟩ := st
    exact wpAny_pyIter_zip g.z h
/-- zip(t, x): t a tuple, x a list or a tuple -/
def iZipM (K : PySem.W.Frag) (ta : TA) : TI := fun σ H R => ta σ H fun vs H1 => ∃ a b xs ys, vs = [.ref a, .ref b] ∧ SqT K H1 a xs ∧ ((SqL K H1 b ys ∧ R (ItzM K a b) H1) ∨ (SqT K H1 b ys ∧ R (RZ.ItzT K a b) H1))
theorem pi_zipM {X : Cx} {e e2 : Expr} {ta : TA} {p pos tpos : Pos} {elts : List Expr} {kk : Nat} (hg : Gl X "zip") (hm : X.mg "zip" = none) (ha : PA X [e, e2] ta)
    (hs : starEach [e, e2] X.env = (false, eval e X.env) :: starEach [e2] X.env := by rfl) (hpl : (backTo pos (starEach [e2] X.env)).any (·.1) = false := by rfl) :
    PI X (.Tuple elts kk tpos) (.Call (.Name "zip" p) [e, e2] [] pos) (iZipM X.K ta) := by
  refine ⟨fun pins s σ H R I h => ?_⟩
  refine Call_ (ld_blt I hg hm PyProof.Rows.boot_zip (PyProof.Rows.callWith_type1 (thn (ha.run pos pins s σ H _ I h) fun us s1 ⟨vs, H1, I1, r1, a, b, xs, ys, ex, qx, q⟩ => ?_) hs hpl))
  subst ex
  obtain ⟨u, v, rfl, ru, rv⟩ := vals2 r1
  cases ru
  cases rv
  have up : ∀ c, c ∈ [s1.heap.objs.size + 4, s1.heap.objs.size + 2, s1.heap.objs.size + 3, s1.heap.objs.size, s1.heap.objs.size + 1] → FpOk X pins H1 c := fun c hc => by
    have hle : s1.heap.objs.size ≤ c := by
      simp only [List.mem_cons, List.not_mem_nil, or_false] at hc
      omega
    exact I1.fpOk hle (I1.hok.fresh hle)
  obtain ⟨its, _, p1, _⟩ := I1.tuple qx
  have b1 : a < s1.heap.objs.size := by obtain ⟨_, e, _⟩ := p1; exact Heap.lt_size e
  rcases q with ⟨qy, q⟩ | ⟨qy, q⟩
  · obtain ⟨jts, _, p2, _⟩ := I1.list qy
    refine call_zipTL (show s1.heap.IsTuple a its.toArray from p1) p2.isList fun h' g n1 n2 kp => wpAny_pyIter_zip g.z ?_
    exact ⟨s1.heap.objs.size + 4, [s1.heap.objs.size + 4, s1.heap.objs.size + 2, s1.heap.objs.size + 3, s1.heap.objs.size, s1.heap.objs.size + 1], _, _, H1, rfl, I1.kept (t' := s1.toks) (h' := h') kp, turn_zipM (PySem.W.ktu_apart s1.heap.objs.size a b b1 p2.lt), ⟨⟨_, _, g⟩, n1, n2⟩, up, q⟩
  · obtain ⟨jts, _, p2, _⟩ := I1.tuple qy
    have b2 : b < s1.heap.objs.size := by obtain ⟨_, e, _⟩ := p2; exact Heap.lt_size e
    refine RZ.call_zipT (show s1.heap.IsTuple a its.toArray from p1) (show s1.heap.IsTuple b jts.toArray from p2) fun h' gz gi go n1 n2 _ kp => wpAny_pyIter_zip gz ?_
    exact ⟨s1.heap.objs.size + 4, [s1.heap.objs.size + 4, s1.heap.objs.size + 2, s1.heap.objs.size + 3, s1.heap.objs.size, s1.heap.objs.size + 1], _, _, H1, rfl, I1.kept (t' := s1.toks) (h' := h') kp, RZ.turn_zipT (PySem.W.ktu_apart s1.heap.objs.size a b b1 b2), ⟨gz, gi, ⟨_, _, go⟩, n1, n2⟩, up, q⟩
theorem for_zipM {K : PySem.W.Frag} {a b : Addr} {xs ys : List V} {g : TG} {tb : TS} {D : Ends} {σ : L2.St} {H : Hp} (hlen : xs.length = ys.length) (Pv : Nat → L2.St → Hp → Prop) (h0 : Pv 0 σ H) (hx : ∀ i σ H, Pv i σ H → SqT K H a xs) (hy : (∀ i σ H, Pv i σ H → SqL K H b ys) ∨ (∀ i σ H, Pv i σ H → SqT K H b ys))
    (hs : ∀ (i : Nat) (x y : V) (t : Addr) (σ : L2.St) (H : Hp), xs[i]? = some x → ys[i]? = some y → Pv i σ H → H t = none → g (.ref t) σ (upd H t (.tup [x, y])) fun σ2 H2 => tb { D with nx := Pv (i + 1), ct := Pv (i + 1), bk := D.nx } σ2 H2) (hd : ∀ σ H, Pv xs.length σ H → D.nx σ H) :
    (SqL K H b ys ∧ ∃ W : Nat → Nat → L2.St → Hp → Prop, (∃ m, W 0 m σ H) ∧ ∀ i m σ H, W i m σ H → ((ItzM K a b).stop i H ∧ D.nx σ H) ∨ ((ItzM K a b).go i H ∧ ∃ N : L2.St → Hp → Prop, (∀ σ' H', N σ' H' → ∃ m', m' < m ∧ W (i + 1) m' σ' H') ∧ ∀ v H', (ItzM K a b).yld i H v H' → g v σ H' fun σ2 H2 => tb { D with nx := N, ct := N, bk := D.nx } σ2 H2)) ∨
    (SqT K H b ys ∧ ∃ W : Nat → Nat → L2.St → Hp → Prop, (∃ m, W 0 m σ H) ∧ ∀ i m σ H, W i m σ H → ((RZ.ItzT K a b).stop i H ∧ D.nx σ H) ∨ ((RZ.ItzT K a b).go i H ∧ ∃ N : L2.St → Hp → Prop, (∀ σ' H', N σ' H' → ∃ m', m' < m ∧ W (i + 1) m' σ' H') ∧ ∀ v H', (RZ.ItzT K a b).yld i H v H' → g v σ H' fun σ2 H2 => tb { D with nx := N, ct := N, bk := D.nx } σ2 H2)) := by
  rcases hy with hy | hy
  · refine .inl ⟨hy 0 _ _ h0, fun i m σ H => m = xs.length - i ∧ i ≤ xs.length ∧ Pv i σ H, ⟨xs.length, by simp, Nat.zero_le _, h0⟩, ?_⟩
    rintro i m σ H ⟨rfl, hi, p⟩
    have qx := hx i σ H p
    have qy := hy i σ H p
    by_cases hlt : i < xs.length
    · have e1 : xs[i]? = some xs[i] := List.getElem?_eq_getElem hlt
      have e2 : ys[i]? = some ys[i] := List.getElem?_eq_getElem (by omega)
      refine .inr ⟨⟨xs, ys, _, _, ⟨qx, qy⟩, e1, e2⟩, Pv (i + 1), fun σ' H' p' => ⟨xs.length - (i + 1), by omega, rfl, hlt, p'⟩, fun v H' y => ?_⟩
      obtain ⟨t, x', y', ⟨rfl, ht, rfl⟩, f1, f2⟩ := y
      exact hs i x' y' t σ H (f1 xs qx) (f2 ys qy) p ht
    · have e : i = xs.length := by omega
      subst e
      exact .inl ⟨⟨xs, ys, ⟨qx, qy⟩, .inl (Nat.le_refl _)⟩, hd σ H p⟩
  · exact .inr ⟨hy 0 _ _ h0, RZ.for_zipT hlen Pv h0 (fun i σ H p => ⟨hx i σ H p, hy i σ H p⟩) hs hd⟩
end Ru

set_option Elab.async false
set_option linter.all false
set_option maxRecDepth 100000
set_option maxHeartbeats 2000000
/-! more rules: an index in a comprehension, isinstance of two of one's own classes, dicts by names, three dicts -/
namespace Ru
open PySem PySem.Spec PyProof.Rows L2
theorem ix_listK {X : Cx} (K : PySem.W.Frag) (h : X.K = K) : IxR X (rIxL K) := h ▸ ix_list
theorem ix_tupK {X : Cx} (K : PySem.W.Frag) (h : X.K = K) : IxR X (rIxT K) := h ▸ ix_tup
theorem nodup_map_range {α : Type} {f : Nat → α} : ∀ {n : Nat}, (∀ i j, i < n → j < n → f i = f j → i = j) → ((List.range n).map f).Nodup
  | 0, _ => by simp
  | n + 1, h => by
    rw [List.range_succ, List.map_append, List.nodup_append]
    refine ⟨nodup_map_range fun i j hi hj e => h i j (by omega) (by omega) e, by simp, fun a ha b hb e => ?_⟩
    obtain ⟨i, hi, rfl⟩ := List.mem_map.mp ha
    rw [List.map_singleton, List.mem_singleton] at hb
    subst hb
    have hi := List.mem_range.mp hi
    have := h i n (by omega) (by omega) e
    omega
/-! ## isinstance(x, (C, D)), both one's own -/
def rIsO2 (K : PySem.W.Frag) (D1 D2 : Addr) (T : Addr → Bool → Prop) : List V → Hp → VK → Prop := fun xs H Q => ∃ a tp C dx fs b, xs = [.ref a, .ref tp] ∧ H tp = some (.tup [.ref D1, .ref D2]) ∧ H a = some (.ins C dx fs) ∧ T C b ∧ Q (.bl b) H
theorem call_isO2 {X : Cx} {D1 D2 : Addr} {T1 T2 : Addr → Bool → Prop} (h1 : IsT X.K D1 T1) (h2 : IsT X.K D2 T2) : CallR X (.builtin "isinstance") (rIsO2 X.K D1 D2 fun C b => ∃ b1 b2, T1 C b1 ∧ T2 C b2 ∧ b = (b1 || b2)) := by
  intro pins s σ H xs us Q I r hq
  obtain ⟨a, tp, C, dx, fs, b, rfl, ht, ha, ⟨b1, b2, t1, t2, rfl⟩, q⟩ := hq
  obtain ⟨⟨mg, x, c⟩, e1⟩ := h1 C b1 t1
  obtain ⟨_, e2⟩ := h2 C b2 t2
  refine call_isiT pins s σ H _ us Q I r ⟨.ref a, tp, _, _, _, b1 || b2, rfl, ht, .cons (.own D1) (.cons (.own D2) .nil), .base (.ins ha c.cl c.ha c.hn c.htk c.hm), ?_, q⟩
  refine kitAny_cons e1 (fun h => ?_) (fun h => by rw [h]; rfl)
  refine kitAny_cons e2 (fun h' => ?_) (fun h' => by rw [h']; simp)
  rw [h, h']
  rfl
/-! ## dicts of names -/
def keysL {α : Type} (l : List (Str × α)) : List Str := l.map (·.1)
def putL {α : Type} (l : List (Str × α)) (n : Str) (v : α) : List (Str × α) := if n ∈ keysL l then l.map fun p => if p.1 = n then (n, v) else p else l ++ [(n, v)]
def getL {α : Type} (l : List (Str × α)) (n : Str) : Option α := (l.find? fun p => decide (p.1 = n)).map (·.2)
def dL {α : Type} (f : α → V) (l : List (Str × α)) : List (Key × V) := l.map fun p => (.inr p.1, f p.2)
section
variable {α : Type} {f : α → V} {l : List (Str × α)} {n m : Str} {v : α}
theorem dL_any : ((dL f l).any fun kv => decide (kv.1 = (Sum.inr n : Key))) = decide (n ∈ keysL l) := by
  rw [Bool.eq_iff_iff, List.any_eq_true, decide_eq_true_eq]
  unfold dL keysL
  constructor
  · rintro ⟨x, hx, e⟩
    obtain ⟨p, hp, rfl⟩ := List.mem_map.mp hx
    have e : p.1 = n := by simpa using e
    exact List.mem_map.mpr ⟨p, hp, e⟩
  · intro h
    obtain ⟨p, hp, rfl⟩ := List.mem_map.mp h
    exact ⟨_, List.mem_map.mpr ⟨p, hp, rfl⟩, by simp⟩
theorem dL_put : putK (dL f l) (Sum.inr n : Key) (f v) = dL f (putL l n v) := by
  unfold putK putL
  rw [dL_any]
  by_cases h : n ∈ keysL l
  · rw [decide_eq_true h, if_pos rfl, if_pos h]
    unfold dL
    rw [List.map_map, List.map_map]
    apply List.map_congr_left
    intro x _
    simp only [Function.comp]
    by_cases e : x.1 = n
    · rw [if_pos e, if_pos (by rw [e]), e]
    · rw [if_neg e, if_neg (fun q => e (by injection q))]
  · rw [decide_eq_false h, if_neg (by decide), if_neg h]
    simp [dL]
theorem dL_get : ∀ {l : List (Str × α)}, valV (dL f l) (Sum.inr n : Key) = (getL l n).map f
  | [] => rfl
  | (x, a) :: l => by
    by_cases e : x = n
    · subst e
      have h2 : valV (dL f ((x, a) :: l)) (Sum.inr x : Key) = some (f a) := valV_pos rfl
      rw [h2]
      simp [getL]
    · have h2 : valV (dL f ((x, a) :: l)) (Sum.inr n : Key) = valV (dL f l) (Sum.inr n : Key) := valV_neg fun q => e (by injection q)
      rw [h2, dL_get]
      simp [getL, e]
theorem dL_len : (dL f l).length = l.length := by simp [dL]
theorem getL_mem : (∃ v, getL l n = some v) ↔ n ∈ keysL l := by
  unfold getL keysL
  constructor
  · rintro ⟨v, h⟩
    obtain ⟨p, hp, rfl⟩ := Option.map_eq_some_iff.mp h
    have h1 := List.mem_of_find?_eq_some hp
    have h2 := List.find?_some hp
    exact List.mem_map.mpr ⟨p, h1, by simpa using h2⟩
  · intro h
    obtain ⟨p, hp, rfl⟩ := List.mem_map.mp h
    have : (l.find? fun q => decide (q.1 = p.1)).isSome := by
      rw [List.find?_isSome]
      exact ⟨p, hp, by simp⟩
    obtain ⟨q, hq⟩ := Option.isSome_iff_exists.mp this
    exact ⟨q.2, by rw [hq]; rfl⟩
theorem getL_none : getL l n = none ↔ n ∉ keysL l := by
  rw [← getL_mem]
  cases getL l n <;> simp
theorem keys_put (h : n ∈ keysL l) : keysL (putL l n v) = keysL l := by
  unfold putL
  rw [if_pos h]
  unfold keysL
  rw [List.map_map]
  apply List.map_congr_left
  intro x _
  simp only [Function.comp]
  split
  · rename_i e
    exact e.symm
  · rfl
theorem keys_new (h : n ∉ keysL l) : putL l n v = l ++ [(n, v)] := by
  unfold putL
  rw [if_neg h]
theorem keys_put_new (h : n ∉ keysL l) : keysL (putL l n v) = keysL l ++ [n] := by
  rw [keys_new h]
  simp [keysL]
theorem put_le : (putL l n v).length ≤ l.length + 1 := by
  unfold putL
  split <;> simp
theorem len_keys : (keysL l).length = l.length := by simp [keysL]
theorem getL_put : getL (putL l n v) m = if m = n then some v else getL l m := by
  have e := dL_get (f := fun a : α => V.non) (l := putL l n v) (n := m)
  clear e
  unfold putL
  split
  · rename_i h
    by_cases e : m = n
    · subst e
      rw [if_pos rfl]
      obtain ⟨p, hp, e1⟩ := List.mem_map.mp h
      unfold getL
      have : ((l.map fun p => if p.1 = m then (m, v) else p).find? fun p => decide (p.1 = m)) = some (m, v) := by
        clear h
        induction l with
        | nil => cases hp
        | cons x l ih =>
          rw [List.map_cons]
          by_cases hx : x.1 = m
          · rw [if_pos hx]
            simp
          · rw [if_neg hx, List.find?_cons_of_neg (by simpa using hx)]
            rcases List.mem_cons.mp hp with rfl | hp
            · exact absurd e1 hx
            · exact ih hp
      rw [this]
      rfl
    · rw [if_neg e]
      unfold getL
      clear h
      induction l with
      | nil => rfl
      | cons x l ih =>
        rw [List.map_cons]
        by_cases hx : x.1 = n
        · rw [if_pos hx, List.find?_cons_of_neg (by simpa using fun q => e q.symm), ih, List.find?_cons_of_neg (by rw [hx]; simpa using fun q => e q.symm)]
        · rw [if_neg hx]
          by_cases hm : x.1 = m
          · rw [List.find?_cons_of_pos (by simpa using hm), List.find?_cons_of_pos (by simpa using hm)]
          · rw [List.find?_cons_of_neg (by simpa using hm), List.find?_cons_of_neg (by simpa using hm), ih]
  · rename_i h
    unfold getL
    rw [List.find?_append]
    by_cases e : m = n
    · subst e
      rw [if_pos rfl]
      have : (l.find? fun p => decide (p.1 = m)) = none := by
        rw [List.find?_eq_none]
        intro p hp q
        exact h (List.mem_map.mpr ⟨p, hp, by simpa using q⟩)
      rw [this]
      simp
    · rw [if_neg e]
      have : ([(n, v)].find? fun p => decide (p.1 = m)) = none := by
        simp
        exact fun q => e q.symm
      rw [this]
      cases l.find? fun p => decide (p.1 = m) <;> rfl
end
/-! ## for over a list or a tuple, whichever it is -/
def iAny (K : PySem.W.Frag) (te : TE) : TI := fun σ H R => te σ H fun x H1 => ∃ a xs, x = .ref a ∧ ((SqL K H1 a xs ∧ R (Itl K a) H1) ∨ (SqT K H1 a xs ∧ R (Itt K a) H1))
theorem pi_any {X : Cx} {tg l : Expr} {te : TE} (hl : PE X l te) : PI X tg l (iAny X.K te) := by
  refine ⟨fun pins s σ H R I h => ?_⟩
  refine thn (hl.run pins s σ H _ I h) fun v s1 ⟨x, H1, I1, r1, a, xs, ex, q⟩ => ?_
  subst ex
  cases r1
  have fp : ∀ b, b ∈ [s1.heap.objs.size] → FpOk X pins H1 b := fun b hb => by
    rw [List.mem_singleton.mp hb]
    exact I1.fpOk (Nat.le_refl _) (I1.hok.fresh (Nat.le_refl _))
  rcases q with ⟨hq, q⟩ | ⟨hq, q⟩
  · obtain ⟨its, _, pl, _⟩ := I1.list hq
    exact wpAny_pyIter_list pl.isList ⟨_, [s1.heap.objs.size], _, _, H1, rfl, I1.kept (t' := s1.toks) fun b o e => Heap.get?_push_of_some _ e, turn_list a _, ⟨_, Heap.get?_push_size _ rfl, rfl, rfl⟩, fp, q⟩
  · obtain ⟨its, _, pt, _⟩ := I1.tuple hq
    exact wpAny_pyIter_tuple (show s1.heap.IsTuple a its.toArray from pt) ⟨_, [s1.heap.objs.size], _, _, H1, rfl, I1.kept (t' := s1.toks) fun b o e => Heap.get?_push_of_some _ e, turn_tuple a _, ⟨_, Heap.get?_push_size _ rfl, rfl, rfl⟩, fp, q⟩
/-- a list or a tuple -/
def Sq (K : PySem.W.Frag) (H : Hp) (a : Addr) (xs : List V) : Prop := SqL K H a xs ∨ SqT K H a xs
/-- a loop over what is a list or a tuple -/
theorem for_any {K : PySem.W.Frag} {a : Addr} {xs : List V} {g : TG} {tb : TS} {D : Ends} {σ : L2.St} {H : Hp} (Pv : Nat → L2.St → Hp → Prop) (h0 : Pv 0 σ H) (hl : (∀ i σ H, i ≤ xs.length → Pv i σ H → SqL K H a xs) ∨ (∀ i σ H, i ≤ xs.length → Pv i σ H → SqT K H a xs))
    (hs : ∀ i x σ H, xs[i]? = some x → Pv i σ H → g x σ H fun σ2 H2 => tb { D with nx := Pv (i + 1), ct := Pv (i + 1), bk := D.nx } σ2 H2) (hd : ∀ σ H, Pv xs.length σ H → D.nx σ H) :
    (SqL K H a xs ∧ ∃ W : Nat → Nat → L2.St → Hp → Prop, (∃ m, W 0 m σ H) ∧ ∀ i m σ H, W i m σ H → ((Itl K a).stop i H ∧ D.nx σ H) ∨ ((Itl K a).go i H ∧ ∃ N : L2.St → Hp → Prop, (∀ σ' H', N σ' H' → ∃ m', m' < m ∧ W (i + 1) m' σ' H') ∧ ∀ x H', (Itl K a).yld i H x H' → g x σ H' fun σ2 H2 => tb { D with nx := N, ct := N, bk := D.nx } σ2 H2)) ∨
    (SqT K H a xs ∧ ∃ W : Nat → Nat → L2.St → Hp → Prop, (∃ m, W 0 m σ H) ∧ ∀ i m σ H, W i m σ H → ((Itt K a).stop i H ∧ D.nx σ H) ∨ ((Itt K a).go i H ∧ ∃ N : L2.St → Hp → Prop, (∀ σ' H', N σ' H' → ∃ m', m' < m ∧ W (i + 1) m' σ' H') ∧ ∀ x H', (Itt K a).yld i H x H' → g x σ H' fun σ2 H2 => tb { D with nx := N, ct := N, bk := D.nx } σ2 H2)) := by
  rcases hl with hl | hl
  · exact .inl ⟨hl 0 _ _ (Nat.zero_le _) h0, for_list Pv h0 hl hs hd⟩
  · exact .inr ⟨hl 0 _ _ (Nat.zero_le _) h0, for_tup Pv h0 hl hs hd⟩
end Ru

set_option Elab.async false
set_option linter.all false
set_option maxRecDepth 100000
set_option maxHeartbeats 2000000
/-! tuples of dicts held against each other -/
namespace PySem.SeqAt
open AutoSeq1 (wpAny_loadPart')
open MeetsSeq MeetsSeq2 MeetsSeq3 SeqRoads2
/-- two tuples whose items are the same, one by one: not unlike -/
theorem ne_same_tuples (P : Program) (W : World) (p q : Addr) (us ws : Array Value) (np nq : Nat) (dp dq : Option Addr) (sp sq : Array (Option Value)) :
    MeetsIn P W (Builtin.«tuple.__ne__» ⟨[.ref p, .ref q], []⟩)
      (fun A R s => s.heap.get? p = some ⟨.type "tuple", dp, .seq us np, sp⟩ ∧ s.heap.get? q = some ⟨.type "tuple", dq, .seq ws nq, sq⟩ ∧ us.size = ws.size ∧
        (∀ k (a : k < us.size) (b : k < ws.size), EqIn P W A.in1 s us[k] ws[k] true) ∧ R (.ok (.ret (.bool false))) s) :=
  .of_wp fun A R s z => by
    obtain ⟨hp, gs, dr, tk, os⟩ := s
    obtain ⟨zp, zq, zn, ze, zr⟩ := z
    have tt := AutoSeq1.sub_tuple_tuple
    have zl : (us.toList.zip ws.toList).length = us.size := by simp [zn]
    wp_walk using wpAny_loadPart' zp, wpAny_loadPart' zq, wpAny_forIn_list _ (fun left acc now => acc.1 = none ∧ now = ⟨hp, gs, dr, tk, os⟩ ∧ ∃ k, left = (us.toList.zip ws.toList).drop k) _
    case turn =>
      rintro ⟨u, v⟩ left acc now ⟨ea, rfl, k, el⟩
      by_cases hk : k < us.size
      · rw [List.drop_eq_getElem_cons (by rw [zl]; exact hk)] at el
        obtain ⟨e1, e2⟩ := List.cons.inj el
        rw [List.getElem_zip] at e1
        obtain ⟨rfl, rfl⟩ := Prod.mk.inj e1
        refine wpAny_bind ((ze k hk (zn ▸ hk)) _ _ ?_)
        wp_walk
        exact ⟨rfl, rfl, k + 1, e2⟩
      · rw [List.drop_of_length_le (by rw [zl]; omega)] at el
        cases el
    case fin =>
      rintro ⟨c1, c2⟩ now ⟨ec, rfl, k, _⟩
      simp only at ec
      subst ec
      wp_walk
      exact ⟨_, rfl, by simpa [Builtin.Tuple.tupleCompareSizes, zn] using zr⟩
    case h => exact ⟨rfl, rfl, 0, rfl⟩
end PySem.SeqAt
namespace Ru
open PySem PySem.Spec PyProof.Rows L2
/-- two tuples of dicts of the same pairs -/
def TwoTD (H : Hp) (a b : Addr) : Prop := a ≠ b ∧ ∃ (as bs : List Addr), H a = some (.tup (as.map V.ref)) ∧ H b = some (.tup (bs.map V.ref)) ∧ as.length = bs.length ∧
  ∀ (i : Nat) (p q : Addr), as[i]? = some p → bs[i]? = some q → p ≠ q ∧ ∃ ks ls, H p = some (.dK ks) ∧ H q = some (.dK ls) ∧ ks.length = ls.length ∧ ∀ r ∈ ks, valV ls r.1 = some r.2 ∧ flatB r.2 = true
def rEqTD : R2 := fun x y H Q => ∃ a b, x = .ref a ∧ y = .ref b ∧ TwoTD H a b ∧ Q (.bl true) H
def rNeTD : R2 := fun x y H Q => ∃ a b, x = .ref a ∧ y = .ref b ∧ TwoTD H a b ∧ Q (.bl false) H
theorem vals_refs_at {as : List Addr} {us : List Value} (r : Vals (as.map V.ref) us) : us = as.map Value.ref := by
  induction as generalizing us with
  | nil => cases r; rfl
  | cons a as ih =>
    rw [List.map_cons] at r
    cases r with
    | cons h t =>
      rw [ih t, List.map_cons]
      congr 1
section
variable {X : Cx} {pins : List (Addr × Obj)} {s : Shared} {σ : L2.St} {H : Hp} {A : Around}
theorem eqIn_td (hu : A.units < cLine) (I : Inv X pins σ H s) {p q : Addr} (ne : p ≠ q) {ks ls : List (Key × V)} (ep : H p = some (.dK ks)) (eq : H q = some (.dK ls)) (hlen : ks.length = ls.length) (hp : ∀ r ∈ ks, valV ls r.1 = some r.2 ∧ flatB r.2 = true) :
    SeqAt.EqIn X.prog X.w A s (.ref p) (.ref q) true := by
  refine SeqAt.EqIn.of_refs ne fun E Q hq => ?_
  obtain ⟨_, ya, va, ra, da⟩ := (show ObjOk X.prog X.w H s.heap p (.dK ks) from I.hok p _ ep)
  obtain ⟨_, yb, vb, rb, db⟩ := (show ObjOk X.prog X.w H s.heap q (.dK ls) from I.hok q _ eq)
  have hl : va.length = vb.length := by rw [← ra.length, ← rb.length]; exact hlen
  refine PySem.W.keq_eq (knd := mixKind X.prog X.w) (r := true) ya yb da db hu (fun _ => hits_all rb ra hp) ?_
  rw [hl]
  simpa using hq
theorem td_at (I : Inv X pins σ H s) {a b : Addr} (h : TwoTD H a b) : ∃ us ws : Array Value, s.heap.IsTuple a us ∧ s.heap.IsTuple b ws ∧ us.size = ws.size ∧ ∀ A : Around, A.units < cLine → ∀ k (h1 : k < us.size) (h2 : k < ws.size), SeqAt.EqIn X.prog X.w A s us[k] ws[k] true := by
  obtain ⟨ne, as, bs, ha, hb, hl, hd⟩ := h
  obtain ⟨z1, us, r1, t1⟩ := (show ObjOk X.prog X.w H s.heap a (.tup _) from I.hok a _ ha)
  obtain ⟨z2, ws, r2, t2⟩ := (show ObjOk X.prog X.w H s.heap b (.tup _) from I.hok b _ hb)
  have e1 := vals_refs_at r1
  have e2 := vals_refs_at r2
  subst e1 e2
  refine ⟨_, _, t1, t2, by simpa using hl, fun A hu k h1 h2 => ?_⟩
  have k1 : k < as.length := by simpa using h1
  have k2 : k < bs.length := by simpa using h2
  obtain ⟨n, ks, ls, q1, q2, q3, q4⟩ := hd k as[k] bs[k] (List.getElem?_eq_getElem k1) (List.getElem?_eq_getElem k2)
  have := eqIn_td hu I n q1 q2 q3 q4
  simpa using this
end
theorem op_eqTD {X : Cx} (hu : X.A.units + 1 < cLine) : OpR X (compareOp .Eq) rEqTD := by
  intro pins s σ H x y v u Q I rx ry h
  obtain ⟨a, b, rfl, rfl, t, q⟩ := h
  obtain rfl : v = Value.ref a := rx
  obtain rfl : u = Value.ref b := ry
  obtain ⟨us, ws, t1, t2, sz, eq⟩ := td_at I t
  have := SeqAt.rcIn_tuples (prog := X.prog) (w := X.w) (A := X.A) (s := s) (e := fun _ => true) (E := X.xe) (Q := fun v s' => ∃ x H', Inv X pins σ H' s' ∧ RelV x v ∧ Q x H') t1 t2 (by omega) (fun k h1 h2 => eq _ (by show X.A.units + 1 < cLine; exact hu) k h1 h2) ⟨.bl true, H, I, by
    have : ((List.range (min us.size ws.size)).all (fun _ => true) && us.size == ws.size) = true := by simp [sz]
    rw [this]
    rfl, q⟩
  exact this
theorem op_neTD {X : Cx} (hu : X.A.units + 1 < cLine) : OpR X (compareOp .NotEq) rNeTD := by
  intro pins s σ H x y v u Q I rx ry h
  obtain ⟨a, b, rfl, rfl, t, q⟩ := h
  obtain rfl : v = Value.ref a := rx
  obtain rfl : u = Value.ref b := ry
  obtain ⟨us, ws, t1, t2, sz, eq⟩ := td_at I t
  obtain ⟨⟨c1, d1, e1, s1⟩, o1, q1, n1, p1⟩ := id t1
  obtain ⟨⟨c2, d2, e2, s2⟩, o2, q2, n2, p2⟩ := id t2
  simp only at q1 p1 q2 p2
  subst q1 p1 q2 p2
  refine wpAny_richCompare_same_room (op := .NotEq) ⟨_, o1, rfl⟩ ⟨_, o2, rfl⟩ PySem.F.slot_tuple_ne (call_meetsIn PySem.F.slot_tuple_ne ⟨_, o1, rfl⟩ PySem.F.entry_tuple_ne (PySem.F.args_tuple_ne_2 _ _) (SeqAt.ne_same_tuples X.prog X.w a b us ws n1 n2 d1 d2 s1 s2)
    ⟨o1, o2, sz, fun k h1 h2 => eq _ (by show X.A.units + 1 < cLine; exact hu) k h1 h2, ?_⟩) (by omega)
  exact ⟨(fun x => nomatch x), .bl false, H, I, rfl, q⟩
end Ru

set_option Elab.async false
set_option linter.all false
set_option maxRecDepth 100000
set_option maxHeartbeats 2000000
/-! a method that may raise, called in a try's body -/
namespace Ru
open PySem PySem.Spec PyProof.Rows L2
/-- o.m(..) where what it raises is handled by the slots -/
def tMethS (T : Addr → Prop) (m : Str) (sp : Addr → Sp) (E : L2.St → XK) (ta : TE) (t : TA) : TE := fun σ H Q => ta σ H fun x H1 => ∃ a C dx fs, x = .ref a ∧ H1 a = some (.ins C dx fs) ∧ T C ∧ fs.lookup m = none ∧ t σ H1 fun vs H2 => sp C (x :: vs) H2 Q (E σ)
section
variable {X : Cx} {W : WX} {j k : Nat} {ps : List Str} {sp : Addr → Sp} {T : Addr → Prop} {m : Str} {p pos apos : Pos} {e o : Expr} {es : List Expr} {ta : TE} {t : TA}
theorem pe_methT {pl : Sem Bool} (D : DispAt X.prog X.w X.K X.mg X.base (L2.CX X.prog X.w) T m k ps sp) (hr : Room j X.A) (tk : L2.Takes X W) (he : PE X o ta) (ha : PA X (e :: es) t) (hj : k ≤ j := by decide)
    (hst : starEach (e :: es) X.env = (false, eval e X.env) :: starEach es X.env := by rfl) (hpl : (backTo pos (starEach es X.env)).any (·.1) = false := by rfl)
    (ht : eval (.Call (.Attribute o m apos) (e :: es) [] pos) X.env = (do
      let ov ← eval o X.env
      standAt apos.atName
      let (f, first) ← holding [ov] (getMethod ov m pl)
      callWith pos f first (backTo pos (starEach (e :: es) X.env)) (backToKw pos (keywordEach [] X.env))) := by rfl) :
    PE X (.Call (.Attribute o m apos) (e :: es) [] pos) (tMethS T m sp (WE W) ta t) := by
  refine ⟨fun pins s σ H Q I h => ?_⟩
  refine PySem.W.methodCall_KW (pl := pl) (thn (he.run pins s σ H _ I h) ?_) ht
  rintro u s1 ⟨x, H1, I1, rx, a, C, dx, fs, rfl, ea, tc, l, q⟩
  obtain rfl : u = Value.ref a := rx
  obtain ⟨f, fd, c, hm, hb, F⟩ := D.ex C tc
  refine getmeth_ok I1 ea c hm l ?_
  refine PySem.W.callWith_K (first := [.ref a]) (h₀ := X.base) I.ok.mod.kin hm.kp (thn (ha.run pos pins s1 σ H1 _ I1 q) ?_) hst hpl
  rintro us s2 ⟨vs, H2, I2, r, q2⟩
  exact ⟨I2.kIn, L2.run_fnS (us := .ref a :: us) (vs := .ref a :: vs) (E := WE W) (F.mono hj) hr hb (L2.passAt tk σ) I2 (.cons rfl r) q2⟩
end
section
variable {K : PySem.W.Frag} {mg mg' : Str → Option Value} {x y : Str} {C D L M : Addr}
theorem ExcAt.self (T : ExcAt K mg x C L) : PySem.W.exmOne K (.ref C) (.ref C) = some true := by
  refine PySem.W.exm_ref T.is_.hs T.is_.hd T.tP ?_
  rw [T.subs]
  congr 1
  simp
end
/-! ### in a comprehension's element -/
theorem call_tuple_ofK {X : Cx} (K : PySem.W.Frag) (h : X.K = K) : CallR X (.type "tuple") (fun xs H Q => ∃ p ys, xs = [.ref p] ∧ ((SqL K H p ys ∧ ∀ l, H l = none → Q (.ref l) (upd H l (.tup ys))) ∨ (SqT K H p ys ∧ Q (.ref p) H))) := h ▸ call_tuple_of
theorem call_list_ofK {X : Cx} (K : PySem.W.Frag) (h : X.K = K) : CallR X (.type "list") (fun xs H Q => ∃ p ys, xs = [.ref p] ∧ (SqL K H p ys ∨ SqT K H p ys) ∧ ∀ l, H l = none → Q (.ref l) (upd H l (.lst ys))) := h ▸ call_list_of
theorem call_len_seqK {X : Cx} (K : PySem.W.Frag) (h : X.K = K) : CallR X (.builtin "len") (fun xs H Q => ∃ p ys, xs = [.ref p] ∧ (SqL K H p ys ∨ SqT K H p ys) ∧ Q (.int ys.length) H) := h ▸ call_len_seq
/-- what stood while something was locked stands behind it -/
theorem lock_same {H H' : Hp} {d : Addr} {od : Obj} {u : HO} (h : H d = some u) (s : Same (upd H d (.frz od u)) H') : Same H (upd H' d u) := fun b o e => by
  by_cases hb : b = d
  · subst hb
    rw [h] at e
    cases e
    exact upd_same
  · rw [upd_ne hb]
    exact s b o (by rw [upd_ne hb]; exact e)
theorem lock_at {H : Hp} {d b : Addr} {od : Obj} {u o : HO} (n : b ≠ d) (h : H b = some o) : upd H d (.frz od u) b = some o := by rw [upd_ne n]; exact h
end Ru

set_option Elab.async false
set_option linter.all false
set_option maxRecDepth 100000
set_option maxHeartbeats 2000000
/-! tuples of numbers, of things that are one, and of dicts, held against each other -/
namespace Ru
open PySem PySem.Spec PyProof.Rows L2
def SamE (H : Hp) (x y : V) : Prop := (∃ p, x = .ref p ∧ y = .ref p) ∨ (∃ n, x = .int n ∧ y = .int n) ∨ ∃ (p q : Addr) (ks ls : List (Key × V)), x = .ref p ∧ y = .ref q ∧ p ≠ q ∧ H p = some (.dK ks) ∧ H q = some (.dK ls) ∧ ks.length = ls.length ∧ ∀ r ∈ ks, valV ls r.1 = some r.2 ∧ flatB r.2 = true
def TwoTX (H : Hp) (a b : Addr) : Prop := ∃ xs ys, H a = some (.tup xs) ∧ H b = some (.tup ys) ∧ xs.length = ys.length ∧ ∀ (i : Nat) (x y : V), xs[i]? = some x → ys[i]? = some y → SamE H x y
def rNeTX : R2 := fun x y H Q => ∃ a b, x = .ref a ∧ y = .ref b ∧ TwoTX H a b ∧ Q (.bl false) H
theorem eqIn_sam {X : Cx} {pins : List (Addr × Obj)} {s : Shared} {σ : L2.St} {H : Hp} {A : Around} (hu : A.units < cLine) (I : Inv X pins σ H s) {x y : V} {u v : Value} (rx : RelV x u) (ry : RelV y v) (h : SamE H x y) : SeqAt.EqIn X.prog X.w A s u v true := by
  rcases h with ⟨p, rfl, rfl⟩ | ⟨n, rfl, rfl⟩ | ⟨p, q, ks, ls, rfl, rfl, ne, ep, eq, hl, hp⟩
  · obtain rfl : u = Value.ref p := rx
    obtain rfl : v = Value.ref p := ry
    exact (SeqAt.EqAt.same _).inModel _ _
  · obtain ⟨t, rfl⟩ := rx
    obtain ⟨t', rfl⟩ := ry
    have := (SeqAt.EqAt.int_int (A := A) (s := s) n t n t').inModel X.prog X.w
    rw [beq_self_eq_true] at this
    exact this
  · obtain rfl : u = Value.ref p := rx
    obtain rfl : v = Value.ref q := ry
    exact eqIn_td hu I ne ep eq hl hp
theorem op_neTX {X : Cx} (hu : X.A.units + 1 < cLine) : OpR X (compareOp .NotEq) rNeTX := by
  intro pins s σ H x y v u Q I rx ry h
  obtain ⟨a, b, rfl, rfl, ⟨xs, ys, ha, hb, hl, hd⟩, q⟩ := h
  obtain rfl : v = Value.ref a := rx
  obtain rfl : u = Value.ref b := ry
  obtain ⟨z1, us, r1, t1⟩ := (show ObjOk X.prog X.w H s.heap a (.tup _) from I.hok a _ ha)
  obtain ⟨z2, ws, r2, t2⟩ := (show ObjOk X.prog X.w H s.heap b (.tup _) from I.hok b _ hb)
  have l1 := r1.length
  have l2 := r2.length
  have eq : ∀ A : Around, A.units < cLine → ∀ k (h1 : k < us.toArray.size) (h2 : k < ws.toArray.size), SeqAt.EqIn X.prog X.w A s us.toArray[k] ws.toArray[k] true := fun A hu k h1 h2 => by
    have k1 : k < xs.length := by simp at h1; omega
    have k2 : k < ys.length := by simp at h2; omega
    obtain ⟨u1, e1, ru⟩ := r1.get (List.getElem?_eq_getElem k1)
    obtain ⟨v1, e2, rv⟩ := r2.get (List.getElem?_eq_getElem k2)
    have := eqIn_sam hu I ru rv (hd k _ _ (List.getElem?_eq_getElem k1) (List.getElem?_eq_getElem k2))
    obtain ⟨_, e1⟩ := List.getElem?_eq_some_iff.mp e1
    obtain ⟨_, e2⟩ := List.getElem?_eq_some_iff.mp e2
    simp only [List.getElem_toArray, e1, e2]
    exact this
  have sz : us.toArray.size = ws.toArray.size := by simp; omega
  obtain ⟨⟨c1, d1, e1, s1⟩, o1, q1, n1, p1⟩ := id t1
  obtain ⟨⟨c2, d2, e2, s2⟩, o2, q2, n2, p2⟩ := id t2
  simp only at q1 p1 q2 p2
  subst q1 p1 q2 p2
  refine wpAny_richCompare_same_room (op := .NotEq) ⟨_, o1, rfl⟩ ⟨_, o2, rfl⟩ PySem.F.slot_tuple_ne (call_meetsIn PySem.F.slot_tuple_ne ⟨_, o1, rfl⟩ PySem.F.entry_tuple_ne (PySem.F.args_tuple_ne_2 _ _) (SeqAt.ne_same_tuples X.prog X.w a b us.toArray ws.toArray n1 n2 d1 d2 s1 s2)
    ⟨o1, o2, sz, fun k h1 h2 => eq _ (by show X.A.units + 1 < cLine; exact hu) k h1 h2, ?_⟩) (by omega)
  exact ⟨(fun z => nomatch z), ⟨.bl false, H, I, rfl, q⟩⟩
/-! ### a class of one's own called in a try's body -/
def tMakeS (C : Addr) (sp : Sp) (E : L2.St → XK) (t : TA) : TE := fun σ H Q => t σ H fun vs H1 => ∀ x dx, H1 x = none → H1 dx = none → dx ≠ x → sp (.ref x :: (vs ++ [])) (upd (upd H1 dx (.own x)) x (.ins C dx [])) (fun v H2 => v = .non ∧ Q (.ref x) H2) (E σ)
section
variable {X : Cx} {W : WX} {j k : Nat} {f C : Addr} {fd : FuncData} {ps : List Str} {sp : Sp} {E : L2.St → XK} {x : Str} {p pos : Pos} {e : Expr} {es : List Expr} {t : TA} {dvs : List V} {ds : List Value}
theorem run_makeS {CX : CXT} {pins : List (Addr × Obj)} {σ : L2.St} {H : Hp} {s : Shared} {Q : VK} {us : List Value} {vs : List V} (M : Mk X.K C f) (F : FnOk X.prog X.w X.K X.mg X.base CX k f fd ps sp) (hr : Room (k + 1) X.A) (hb : L2.Binds X.K fd ps ds) (hd : Vals dvs ds)
    (hx : PassesAt CX X σ (E σ)) (I : Inv X pins σ H s) (r : Vals vs us)
    (h : ∀ x dx, H x = none → H dx = none → dx ≠ x → sp (.ref x :: (vs ++ dvs)) (upd (upd H dx (.own x)) x (.ins C dx [])) (fun v H2 => v = .non ∧ Q (.ref x) H2) (E σ)) :
    wpAny (model X.prog X.w) X.A (call (.ref C) us) (EP X pins σ Q) X.xe s := by
  have hq := h (s.heap.objs.size + 1) s.heap.objs.size (I.hok.fresh (Nat.le_succ _)) (I.hok.fresh (Nat.le_refl _)) (Nat.ne_of_lt (Nat.lt_succ_self _))
  have I2 := Inv.made (C := C) I
  have r2 : Vals (V.ref (s.heap.objs.size + 1) :: (vs ++ dvs)) (Value.ref (s.heap.objs.size + 1) :: (us ++ ds)) := .cons rfl (r.append hd)
  have hl : (Value.ref (s.heap.objs.size + 1) :: us ++ ds).length = ps.length := by
    have e := r2.length
    rw [F.len _ _ _ _ hq] at e
    exact e.symm
  refine wpAny_call (make_map (f := f) I.kIn M.makes M.init (beq_iff_eq.mp M.fn) (codeAny_mono (F.run _ X.stack _ _ ⟨Value.ref (s.heap.objs.size + 1) :: us, []⟩ (Value.ref (s.heap.objs.size + 1) :: (us ++ ds)) _ _ (E σ) (hr.make C us [])
    (I2.env0.make C us []) (hb _ (Value.ref (s.heap.objs.size + 1) :: us) I2.kIn hl) r2 hq) fun r s' hq' => ?_))
  cases r with
  | error e => exact hx pins _ _ e s' I2 hq'
  | ok fl =>
    cases fl with
    | ret u =>
      obtain ⟨v, H', I3, rv, ev, q3⟩ := I2.after hq'
      subst ev
      exact ⟨rv, ⟨V.ref (s.heap.objs.size + 1), H', I3, rfl, q3⟩⟩
    | next => exact False.elim hq'
    | brk => exact False.elim hq'
    | cont => exact False.elim hq'
theorem pe_makeT (M : MakAt X.prog X.w X.K X.mg X.base (L2.CX X.prog X.w) x C k ps sp) (hr : Room j X.A) (tk : L2.Takes X W) (ha : PA X (e :: es) t) (hj : k + 1 ≤ j := by decide) (hg : Gl X x := by rfl)
    (hdb : (x == ("__debug__" : Str)) = false := by decide) (he : starEach (e :: es) X.env = (false, eval e X.env) :: starEach es X.env := by rfl) (hpl : (backTo pos (starEach es X.env)).any (·.1) = false := by rfl) :
    PE X (.Call (.Name x p) (e :: es) [] pos) (tMakeS C sp (WE W) t) := by
  obtain ⟨f, fd, hm, M', hb, F⟩ := M.ex
  refine ⟨fun pins s σ H Q I h => ?_⟩
  refine wpAny_Call_Name_kw (ld_glob I hg hm ?_ hdb)
  refine PySem.W.callWith_K (h₀ := X.base) I.ok.mod.kin M'.kp (thn (ha.run pos pins s σ H _ I h) fun us s1 ⟨vs, H1, I1, r, q⟩ => ⟨I1.kIn, ?_⟩) he hpl
  exact run_makeS M' F (hr.mono hj) hb .nil (L2.passAt tk σ) I1 r q
end
end Ru

set_option Elab.async false
set_option linter.all false
set_option maxRecDepth 100000
set_option maxHeartbeats 2000000
/-! a try whose body raises nothing -/
namespace Ru
open PySem PySem.Spec PyProof.Rows L2
section
variable {X : Cx} {x : Str} {body suite : List Stmt} {np pos pos' : Pos} {nm : Option Str} {tb : WX → TS}
theorem ps_try_calm (hs : X.stack = X.env :: X.outer)
    (hb : ∀ (W : WX) (pn : List (Addr × Obj)) (xe : Value → Shared → Prop), Takes (X.tr pn xe) W → PassesOwn (model X.prog X.w) X.A X.env xe → PSs (X.tr pn xe) body (tb W)) :
    PS X (.Try body [.ExceptHandler (some (.Name x np)) nm suite pos'] [] [] pos) (fun D σ H => tb (fun _ _ _ _ => False) D σ H) := by
  refine ⟨fun pins s σ H D I h => ?_⟩
  have ok := I.ok
  refine wpAny_Try_except ?_
  refine wpAny_mono ((hb (fun _ _ _ _ => False) (X.pn ++ pins) (fun e s₁ => wpAny (model X.prog X.w) X.A (noteFrame e X.env) (fun _ s₂ => wpAny (model X.prog X.w) X.A (setFlight e none) (fun _ s₃ =>
    wpAny (model X.prog X.w) X.A (handleBy e X.env [.ExceptHandler (some (.Name x np)) nm suite pos']) (SP X pins D) X.xe s₃) X.xe s₂) X.xe s₁) (fun u s' xx => ?_) PassesOwn.looking).run [] s σ H D (I.toTry _) h) (fun f s1 hsp => ?_) (fun e s1 he => he)
  · obtain ⟨a, B, sI, pins', σ', H', cls, d, rfl, J', nb, up, sky, na, os, ag, hF⟩ := xx
    exact hF.elim
  · cases f with
    | next =>
      obtain ⟨σ', H', J', q⟩ := hsp
      exact wpAny_execs_nil ⟨σ', H', J'.ofTry ok, q⟩
    | brk =>
      obtain ⟨σ', H', J', q⟩ := hsp
      exact ⟨σ', H', J'.ofTry ok, q⟩
    | cont =>
      obtain ⟨σ', H', J', q⟩ := hsp
      exact ⟨σ', H', J'.ofTry ok, q⟩
    | ret u =>
      obtain ⟨v, σ', H', J', r, q⟩ := hsp
      exact ⟨v, σ', H', J'.ofTry ok, r, q⟩
end
/-! ## tuples of which it is known that they bear no dict: t.index(x) -/
/-- a tuple that stands as it is, without a dict -/
def TupN (H : Hp) (a : Addr) (xs : List V) : Prop := ∃ o, H a = some (.frz o (.tup xs)) ∧ o.dict = none
theorem TupN.sq {K : PySem.W.Frag} {H : Hp} {a : Addr} {xs : List V} (h : TupN H a xs) : SqT K H a xs := let ⟨o, e, _⟩ := h; .inl (.inr ⟨o, e⟩)
theorem TupN.keep {H H' : Hp} {a : Addr} {xs : List V} (h : TupN H a xs) (s : Same H H') : TupN H' a xs := let ⟨o, e, d⟩ := h; ⟨o, s _ _ e, d⟩
/-- tuple(xs) of a list: made anew; of a tuple: that one -/
theorem call_tuple_ofN {X : Cx} : CallR X (.type "tuple") (fun xs H Q => ∃ p ys, xs = [.ref p] ∧ ((SqL X.K H p ys ∧ ∀ l o, H l = none → o.dict = none → Q (.ref l) (upd H l (.frz o (.tup ys)))) ∨ (SqT X.K H p ys ∧ Q (.ref p) H))) := by
  intro pins s σ H xs us Q I r h
  obtain ⟨p, ys, rfl, h⟩ := h
  obtain ⟨u, rfl, rx⟩ := vals1 r
  cases rx
  rcases h with ⟨hq, q⟩ | ⟨hq, q⟩
  · obtain ⟨its, r', pl, hz⟩ := I.list hq
    have hlen := r'.length
    refine call_tuple_list pl.isList (fun h' kp => ?_) (by simp only [List.size_toArray] <;> omega)
    have I1 : Inv X pins σ H { s with heap := h' } := I.kept (t' := s.toks) kp
    have I2 : Inv X pins σ (upd H h'.objs.size (.frz { cls := .type "tuple", data := .seq its.toArray } (.tup ys))) { s with heap := h'.push { cls := .type "tuple", data := .seq its.toArray } } :=
      I1.laid (t' := s.toks) (fun b o e => Heap.get?_push_of_some _ e) (Nat.le_refl _) (show ObjOk X.prog X.w _ _ _ (.frz _ (.tup ys)) from ⟨Heap.get?_push_size _ rfl, hz, its, r', IsTup.new _ _⟩)
    exact ⟨.ref h'.objs.size, _, I2, rfl, q _ _ (I1.hok.fresh (Nat.le_refl _)) rfl⟩
  · obtain ⟨its, r', pl, hz⟩ := I.tuple hq
    exact call_tuple_same pl ⟨.ref p, H, I, rfl, q⟩
def tTupKeysN (td : TE) : TE := fun σ H Q => td σ H fun x H1 => ∃ d kvs, x = .ref d ∧ H1 d = some (.dK kvs) ∧ ∀ q o, H1 q = none → o.dict = none → Q (.ref q) (upd H1 q (.frz o (.tup (kvs.map fun kv => kV kv.1))))
section
variable {X : Cx}
theorem pe_tupKeysN {e : Expr} {td : TE} {p pos apos cpos : Pos} (hm : X.mg "tuple" = none) (he : PE X e td) (hc : X.calm = true := by rfl) (hg : Gl X "tuple" := by rfl) (hbase : attributeBase e "keys" X.env (eval e X.env) = eval e X.env := by rfl) (hline : (apos.endLine == cpos.line) = true := by rfl)
    (na : starEach [.Call (.Attribute e "keys" apos) [] [] cpos] X.env = (false, eval (.Call (.Attribute e "keys" apos) [] [] cpos) X.env) :: starEach [] X.env := by rfl) :
    PE X (.Call (.Name "tuple" p) [.Call (.Attribute e "keys" apos) [] [] cpos] [] pos) (tTupKeysN td) := by
  refine ⟨fun pins s σ H Q I h => ?_⟩
  refine Call_ (ld_blt I hg hm boot_tuple (PyProof.Rows.callWith_type1 (args_cons ?_ na) na))
  refine wpAny_Call_method (T := "dict") (id := "dict.keys") hbase rfl hline F.plainAttrs_dict F.slot_dict_keys F.type_dict_keys (thn (he.run pins s σ H _ I h) fun u s1 ⟨x, H1, I1, rx, d, kvs, ex, hd, q⟩ => ?_)
  subst ex
  obtain rfl : u = Value.ref d := rx
  obtain ⟨z, lo, vs, rk, hdt⟩ := (show ObjOk X.prog X.w H1 s1.heap d (.dK kvs) from I1.hok d _ hd)
  obtain ⟨ep, hat⟩ := hdt.dictAt
  have hl : kvs.length = vs.length := Paired.length rk
  refine ⟨hat.dictOf.typeIs, hat.dictOf.mapOf.noDict, ?_⟩
  have k2 : ∀ b o, s1.heap.get? b = some o → (s1.heap.push { cls := .type "dict_keys", data := .fields #[.ref d] }).get? b = some o := fun b ob q => Heap.get?_push_of_some _ q
  have I2 : Inv X pins σ H1 { s1 with heap := s1.heap.push { cls := .type "dict_keys", data := .fields #[.ref d] } } := I1.kept (t' := s1.toks) k2
  have view : PySem.W.KdlKeysView (s1.heap.push { cls := .type "dict_keys", data := .fields #[.ref d] }) s1.heap.objs.size d := ⟨_, Heap.get?_push_size _ rfl, rfl, rfl⟩
  have fin : wpAny (model X.prog X.w) X.A (call (.type "tuple") [.ref s1.heap.objs.size]) (EP X pins σ Q) X.xe { s1 with heap := s1.heap.push { cls := .type "dict_keys", data := .fields #[.ref d] } } := by
    refine call_tuple_kdl (PySem.W.kdl_keys (knd := mixKind X.prog X.w) (kvs := vs) (ep := ep) (d := d)) (I1.ok.hd hc) ⟨view, hat.push _⟩ (by rw [← hl]; exact z) fun h' tk acc hk hacc => ?_
    have I3 : Inv X pins σ H1 { s1 with heap := h', toks := tk } := I2.kept (h' := h') (t' := tk) hk
    have el : acc.toList.length = acc.size := by simp
    have rv : Vals (kvs.map fun kv => kV kv.1) acc.toList := by
      refine vals_of_at (by rw [List.length_map, el, hacc.1, hl]) fun j x w h1 h2 => ?_
      obtain ⟨k, y, hky, hi⟩ := hacc.2 j w (by rw [← Array.getElem?_toList]; exact h2)
      have e1 : (kvs.map (·.1))[j]? = some k := by
        rw [KV.keys rk, List.getElem?_map, hky] <;> rfl
      have e2 : (kvs.map fun kv => kV kv.1)[j]? = some (kV k) := by
        have e3 : (kvs.map fun kv => kV kv.1) = (kvs.map (·.1)).map kV := by rw [List.map_map] <;> rfl
        rw [e3, List.getElem?_map, e1] <;> rfl
      rw [e2] at h1
      cases h1
      exact keyIs_rel hi
    have hz : (kvs.map fun kv => kV kv.1).length ≤ sizeLine := by rw [List.length_map]; exact z
    have I4 : Inv X pins σ (upd H1 h'.objs.size (.frz { cls := .type "tuple", data := .seq acc } (.tup (kvs.map fun kv => kV kv.1)))) { s1 with heap := h'.push { cls := .type "tuple", data := .seq acc }, toks := tk } := by
      refine I3.laid (t' := tk) (fun b o e => Heap.get?_push_of_some _ e) (Nat.le_refl _) (show ObjOk X.prog X.w _ _ _ (.frz _ (.tup _)) from ⟨Heap.get?_push_size _ rfl, hz, acc.toList, rv, ?_⟩)
      have e5 : acc.toList.toArray = acc := by simp
      rw [e5]
      exact ⟨_, Heap.get?_push_size _ rfl, rfl, _, rfl⟩
    exact ⟨.ref h'.objs.size, _, I4, rfl, q _ _ (I3.hok.fresh (Nat.le_refl _)) rfl⟩
  show wpAny _ _ (callWith cpos (.builtin "dict.keys") [.ref d] [] []) _ X.xe s1
  exact method_meetsIn F.slot_dict_keys F.entry_dict_keys rfl (PySem.evalArgs_none ⟨rfl, hat.dictOf.typeIs, F.args_dict_keys_1 _, _, PySem.W.kdl_meets_keys (mixKind X.prog X.w) d lo, ⟨vs, hat.dictOf⟩, args_nil fin⟩)
/-- t.index(x) -/
def tTupIx (to : TE) (t : TA) : TE := fun σ H Q => to σ H fun x H1 => ∃ p xs0, x = .ref p ∧ TupN H1 p xs0 ∧ t σ H1 fun vs H2 => ∃ (ys : List Str) (z : Str) (j : Nat), vs = [.str z] ∧ SqT X.K H2 p (ys.map V.str) ∧ ys[j]? = some z ∧ (∀ m, m < j → ys[m]? ≠ some z) ∧ Q (.int (j : Nat)) H2
theorem pe_tupIndex {o e : Expr} {es : List Expr} {to : TE} {t : TA} {apos cpos : Pos} (ho : PE X o to) (ha : PA X (e :: es) t)
    (hbase : attributeBase o "index" X.env (eval o X.env) = eval o X.env := by rfl)
    (hfew : ((backTo cpos (starEach (e :: es) X.env)).all (fun x => !x.1) && (backToKw cpos (keywordEach [] X.env)).all (fun x => x.1.isSome)
      && decide ((e :: es).length + ([] : List Keyword).length + (if ([] : List Keyword).isEmpty then 0 else 1) < 30)) = true := by rfl)
    (hline : (apos.endLine == cpos.line) = true := by rfl) (hs : starEach (e :: es) X.env = (false, eval e X.env) :: starEach es X.env := by rfl) (hplain : (backTo cpos (starEach es X.env)).any (·.1) = false := by rfl) :
    PE X (.Call (.Attribute o "index" apos) (e :: es) [] cpos) (tTupIx (X := X) to t) := by
  refine ⟨fun pins s σ H Q I h => ?_⟩
  refine wpAny_Call_method_late hbase hfew hline rfl (thn (ho.run pins s σ H _ I h) fun v s1 ⟨x, H1, I1, r1, p, xs0, ex, ⟨ob, ep, ed⟩, q1⟩ => ?_)
  subst ex
  obtain rfl : v = Value.ref p := r1
  obtain ⟨g1, g2⟩ := (show ObjOk X.prog X.w H1 s1.heap p (.frz ob (.tup xs0)) from I1.hok p _ ep)
  obtain ⟨_, its, _, o2, g3, g4, _⟩ := g2
  rw [g1] at g3
  cases g3
  refine ⟨"tuple", "tuple.index", PySem.F.plainAttrs_tuple, PySem.F.slot_tuple_index, PySem.F.type_tuple_index, ⟨ob, g1, g4⟩, fun a e => by cases e; exact ⟨ob, g1, ed⟩, ?_⟩
  have hA := ha.run cpos pins s1 σ H1 _ I1 q1
  rw [hs] at hA ⊢
  refine Calls.callWith_builtin (by show (false || (backTo cpos (starEach es X.env)).any (·.1)) = false; rw [hplain] <;> rfl) (Calls.evalArgs_plain ?_)
  exact thn hA fun us s2 ⟨vs, H2, I2, r2, ys, z, j, e1, e2, e3, e4, q2⟩ => mt_tup_index pins s2 σ H2 (.ref p) vs (.ref p) us Q I2 rfl r2 ⟨p, ys, z, j, rfl, e1, e2, e3, e4, q2⟩
end
end Ru

set_option Elab.async false
set_option linter.all false
set_option maxRecDepth 100000
/-! sheets, in plain Lean: nodes as (place, low, high), kept apart from any program -/
namespace Sh
abbrev Nd := Nat × Nat × Nat
/-- the place of a node -/
def pl (n : Nat) (ns : List Nd) (k : Nat) : Nat := if k < 2 then n else match ns[k - 2]? with | some t => t.1 | none => n
/-- what a node tells of a row, by so many steps at most -/
def evf : Nat → List Nd → Nat → (Nat → Bool) → Bool
  | 0, _, _, _ => false
  | f + 1, ns, k, b => if k < 2 then k == 1 else match ns[k - 2]? with
    | some (p, l, h) => evf f ns (if b p then h else l) b
    | none => false
def ev (ns : List Nd) (k : Nat) (b : Nat → Bool) : Bool := evf (k + 1) ns k b
structure Wf (n : Nat) (ns : List Nd) : Prop where
  ok : ∀ i p l h, ns[i]? = some (p, l, h) → p < n ∧ l ≠ h ∧ l < i + 2 ∧ h < i + 2 ∧ p < pl n ns l ∧ p < pl n ns h
  nd : ns.Nodup
theorem Wf.nil {n : Nat} : Wf n [] := ⟨fun i p l h e => by simp at e, List.nodup_nil⟩
section
variable {n : Nat} {ns : List Nd}
theorem at_some {k : Nat} (h2 : 2 ≤ k) (hk : k < ns.length + 2) : ∃ p l h, ns[k - 2]? = some (p, l, h) := by
  have : k - 2 < ns.length := by omega
  exact ⟨ns[k - 2].1, ns[k - 2].2.1, ns[k - 2].2.2, by rw [List.getElem?_eq_getElem this]⟩
theorem pl_at {k p l h : Nat} (h2 : 2 ≤ k) (e : ns[k - 2]? = some (p, l, h)) : pl n ns k = p := by
  unfold pl
  rw [if_neg (by omega), e]
theorem pl_low {k : Nat} (h : k < 2) : pl n ns k = n := if_pos h
theorem Wf.pl_lt (w : Wf n ns) {k : Nat} (h2 : 2 ≤ k) (hk : k < ns.length + 2) : pl n ns k < n := by
  obtain ⟨p, l, h, e⟩ := at_some h2 hk
  rw [pl_at h2 e]
  exact (w.ok _ _ _ _ e).1
theorem Wf.pl_le (w : Wf n ns) {k : Nat} (hk : k < ns.length + 2) : pl n ns k ≤ n := by
  by_cases h2 : k < 2
  · rw [pl_low h2]; exact Nat.le_refl _
  · exact Nat.le_of_lt (w.pl_lt (by omega) hk)
theorem Wf.kids (w : Wf n ns) {k p l h : Nat} (h2 : 2 ≤ k) (e : ns[k - 2]? = some (p, l, h)) : p < n ∧ l ≠ h ∧ l < k ∧ h < k ∧ p < pl n ns l ∧ p < pl n ns h := by
  obtain ⟨a, b, c, d, f, g⟩ := w.ok _ _ _ _ e
  exact ⟨a, b, by omega, by omega, f, g⟩
theorem lt_of_at {k : Nat} {t : Nd} (h2 : 2 ≤ k) (e : ns[k - 2]? = some t) : k < ns.length + 2 := by
  have := (List.getElem?_eq_some_iff.mp e).1
  omega
theorem Wf.evf_more (w : Wf n ns) (b : Nat → Bool) : ∀ (f k : Nat), k < f → evf f ns k b = evf (k + 1) ns k b := by
  intro f
  induction f using Nat.strongRecOn with
  | _ f ih =>
    intro k hk
    obtain ⟨g, rfl⟩ : ∃ g, f = g + 1 := ⟨f - 1, by omega⟩
    simp only [evf]
    by_cases h2 : k < 2
    · rw [if_pos h2, if_pos h2]
    · rw [if_neg h2, if_neg h2]
      cases e : ns[k - 2]? with
      | none => rfl
      | some t =>
        obtain ⟨p, l, h⟩ := t
        obtain ⟨_, _, hl, hh, _⟩ := w.kids (by omega) e
        show evf g ns (if b p then h else l) b = evf k ns (if b p then h else l) b
        have hc : (if b p then h else l) < k := by split <;> assumption
        by_cases hgk : g + 1 = k + 1
        · rw [Nat.succ.inj hgk]
        · rw [ih g (by omega) _ (by omega), ih k (by omega) _ hc]
theorem ev_low {k : Nat} {b : Nat → Bool} (h : k < 2) : ev ns k b = (k == 1) := by
  unfold ev evf
  rw [if_pos h]
theorem Wf.ev_at (w : Wf n ns) {k p l h : Nat} (b : Nat → Bool) (h2 : 2 ≤ k) (e : ns[k - 2]? = some (p, l, h)) : ev ns k b = ev ns (if b p then h else l) b := by
  obtain ⟨_, _, hl, hh, _⟩ := w.kids h2 e
  have hc : (if b p then h else l) < k := by split <;> assumption
  show evf (k + 1) ns k b = _
  rw [evf, if_neg (by omega), e]
  exact w.evf_more b _ _ hc
/-- what stands ahead of a node's place has no say -/
theorem Wf.indep (w : Wf n ns) {b b' : Nat → Bool} : ∀ (k : Nat), k < ns.length + 2 → (∀ q, pl n ns k ≤ q → b q = b' q) → ev ns k b = ev ns k b' := by
  intro k
  induction k using Nat.strongRecOn with
  | _ k ih =>
    intro hk hq
    by_cases h2 : k < 2
    · rw [ev_low h2, ev_low h2]
    · obtain ⟨p, l, h, e⟩ := at_some (by omega) hk
      obtain ⟨_, _, hl, hh, pl_, ph_⟩ := w.kids (by omega) e
      have ep := pl_at (n := n) (by omega) e
      rw [w.ev_at b (by omega) e, w.ev_at b' (by omega) e, ← hq p (by omega)]
      by_cases hb : b p = true
      · rw [if_pos hb]
        exact ih h hh (by omega) fun q hq' => hq q (by omega)
      · rw [if_neg hb]
        exact ih l hl (by omega) fun q hq' => hq q (by omega)
def setb (b : Nat → Bool) (p : Nat) (v : Bool) : Nat → Bool := fun q => if q = p then v else b q
theorem setb_at {b : Nat → Bool} {p : Nat} {v : Bool} : setb b p v p = v := if_pos rfl
theorem setb_ne {b : Nat → Bool} {p q : Nat} {v : Bool} (h : q ≠ p) : setb b p v q = b q := if_neg h
theorem Wf.ev_set (w : Wf n ns) {k p : Nat} (b : Nat → Bool) (v : Bool) (hk : k < ns.length + 2) (hp : p < pl n ns k) : ev ns k (setb b p v) = ev ns k b :=
  w.indep k hk fun q hq => setb_ne (by omega)
theorem Wf.ev_child (w : Wf n ns) {k p l h : Nat} (b : Nat → Bool) (v : Bool) (h2 : 2 ≤ k) (e : ns[k - 2]? = some (p, l, h)) : ev ns k (setb b p v) = ev ns (if v then h else l) b := by
  obtain ⟨_, _, hl, hh, pl_, ph_⟩ := w.kids h2 e
  have hk := lt_of_at h2 e
  rw [w.ev_at _ h2 e, setb_at]
  cases v
  · exact w.ev_set b _ (k := l) (by omega) pl_
  · exact w.ev_set b _ (k := h) (by omega) ph_
/-- two nodes that tell the same are one -/
theorem Wf.one (w : Wf n ns) : ∀ (m a c : Nat), a ≤ m → c ≤ m → a < ns.length + 2 → c < ns.length + 2 → (∀ b, ev ns a b = ev ns c b) → a = c := by
  intro m
  induction m with
  | zero => intro a c ha hc _ _ _; omega
  | succ m ih =>
    have key : ∀ (a c : Nat), a ≤ m + 1 → a < ns.length + 2 → c < ns.length + 2 → 2 ≤ a → pl n ns a < pl n ns c → (∀ b, ev ns a b = ev ns c b) → False := by
      intro a c ha hal hcl h2 hp he
      obtain ⟨p, l, h, e⟩ := at_some h2 hal
      obtain ⟨_, hlh, hl, hh, pl_, ph_⟩ := w.kids h2 e
      rw [pl_at h2 e] at hp
      refine hlh (ih l h (by omega) (by omega) (by omega) (by omega) fun b => ?_)
      have e0 := w.ev_child b false h2 e
      have e1 := w.ev_child b true h2 e
      rw [he, w.ev_set b _ hcl hp] at e0 e1
      exact e0.symm.trans e1
    intro a c ha hc hal hcl he
    by_cases ha2 : a < 2
    · by_cases hc2 : c < 2
      · have := he fun _ => false
        rw [ev_low ha2, ev_low hc2] at this
        have h1 : a = 1 ↔ c = 1 := by
          have q : (a == 1) = true ↔ (c == 1) = true := by rw [this]
          simpa using q
        omega
      · exact (key c a hc hcl hal (by omega) (by rw [pl_low ha2]; exact w.pl_lt (by omega) hcl) fun b => (he b).symm).elim
    · by_cases hc2 : c < 2
      · exact (key a c ha hal hcl (by omega) (by rw [pl_low hc2]; exact w.pl_lt (by omega) hal) he).elim
      · rcases Nat.lt_trichotomy (pl n ns a) (pl n ns c) with hp | hp | hp
        · exact (key a c ha hal hcl (by omega) hp he).elim
        · obtain ⟨p, l, h, e⟩ := at_some (by omega : 2 ≤ a) hal
          obtain ⟨p', l', h', e'⟩ := at_some (by omega : 2 ≤ c) hcl
          obtain ⟨_, _, hl, hh, _, _⟩ := w.kids (by omega) e
          obtain ⟨_, _, hl', hh', _, _⟩ := w.kids (by omega) e'
          rw [pl_at (by omega) e, pl_at (by omega) e'] at hp
          subst hp
          have el : l = l' := ih l l' (by omega) (by omega) (by omega) (by omega) fun b => by
            have e0 := w.ev_child b false (by omega) e
            rw [he, w.ev_child b false (by omega) e'] at e0
            exact e0.symm
          have eh : h = h' := ih h h' (by omega) (by omega) (by omega) (by omega) fun b => by
            have e0 := w.ev_child b true (by omega) e
            rw [he, w.ev_child b true (by omega) e'] at e0
            exact e0.symm
          subst el eh
          have hi := (List.getElem?_eq_some_iff.mp e)
          have hi' := (List.getElem?_eq_some_iff.mp e')
          obtain ⟨x1, x2⟩ := hi
          obtain ⟨y1, y2⟩ := hi'
          have hne := List.pairwise_iff_getElem.mp w.nd
          rcases Nat.lt_trichotomy (a - 2) (c - 2) with q | q | q
          · exact absurd (x2.trans y2.symm) (hne _ _ x1 y1 q)
          · omega
          · exact absurd (y2.trans x2.symm) (hne _ _ y1 x1 q)
        · exact (key c a hc hcl hal (by omega) hp fun b => (he b).symm).elim
theorem Wf.canon (w : Wf n ns) {a c : Nat} (ha : a < ns.length + 2) (hc : c < ns.length + 2) (he : ∀ b, ev ns a b = ev ns c b) : a = c :=
  w.one (max a c) a c (by omega) (by omega) ha hc he
/-! more nodes behind -/
theorem at_app {m : List Nd} {k : Nat} (hk : k < ns.length + 2) (h2 : 2 ≤ k) : (ns ++ m)[k - 2]? = ns[k - 2]? := List.getElem?_append_left (by omega)
theorem pl_app {m : List Nd} {k : Nat} (hk : k < ns.length + 2) : pl n (ns ++ m) k = pl n ns k := by
  unfold pl
  by_cases h2 : k < 2
  · rw [if_pos h2, if_pos h2]
  · rw [if_neg h2, if_neg h2, at_app hk (by omega)]
theorem Wf.ev_app (w : Wf n ns) {m : List Nd} (w2 : Wf n (ns ++ m)) {b : Nat → Bool} : ∀ (k : Nat), k < ns.length + 2 → ev (ns ++ m) k b = ev ns k b := by
  intro k
  induction k using Nat.strongRecOn with
  | _ k ih =>
    intro hk
    by_cases h2 : k < 2
    · rw [ev_low h2, ev_low h2]
    · obtain ⟨p, l, h, e⟩ := at_some (by omega) hk
      obtain ⟨_, _, hl, hh, _, _⟩ := w.kids (by omega) e
      have hc : (if b p then h else l) < k := by split <;> assumption
      rw [w.ev_at b (by omega) e, w2.ev_at b (by omega) ((at_app hk (by omega)).trans e)]
      exact ih _ hc (by omega)
theorem Wf.push (w : Wf n ns) {p l h : Nat} (hp : p < n) (hlh : l ≠ h) (hl : l < ns.length + 2) (hh : h < ns.length + 2) (pl_ : p < pl n ns l) (ph_ : p < pl n ns h) (hn : (p, l, h) ∉ ns) : Wf n (ns ++ [(p, l, h)]) := by
  refine ⟨fun i p' l' h' e => ?_, List.nodup_append.mpr ⟨w.nd, by simp, fun a ha b hb e => hn (by rw [List.mem_singleton.mp hb] at e; exact e ▸ ha)⟩⟩
  by_cases hi : i < ns.length
  · rw [List.getElem?_append_left hi] at e
    obtain ⟨a, b, c, d, f, g⟩ := w.ok _ _ _ _ e
    exact ⟨a, b, c, d, by rw [pl_app (by omega)]; exact f, by rw [pl_app (by omega)]; exact g⟩
  · have hil := (List.getElem?_eq_some_iff.mp e).1
    rw [List.length_append, List.length_singleton] at hil
    obtain rfl : i = ns.length := by omega
    rw [List.getElem?_append_right (Nat.le_refl _), Nat.sub_self] at e
    cases e
    exact ⟨hp, hlh, hl, hh, by rw [pl_app hl]; exact pl_, by rw [pl_app hh]; exact ph_⟩
end
/-! the node of a place and two nodes -/
def num? : List Nd → Nat → Nd → Option Nat
  | [], _, _ => none
  | t :: r, i, u => if t = u then some (i + 2) else num? r (i + 1) u
theorem num_none : ∀ {ns : List Nd} {i : Nat} {u : Nd}, num? ns i u = none ↔ u ∉ ns
  | [], _, _ => by simp [num?]
  | t :: r, i, u => by
    unfold num?
    by_cases h : t = u
    · simp [h]
    · rw [if_neg h, num_none]
      simp [Ne.symm h]
theorem num_some : ∀ {ns : List Nd} {i k : Nat} {u : Nd}, num? ns i u = some k → ∃ j, k = i + j + 2 ∧ ns[j]? = some u
  | [], _, _, _, e => by simp [num?] at e
  | t :: r, i, k, u, e => by
    unfold num? at e
    by_cases h : t = u
    · rw [if_pos h] at e
      cases e
      exact ⟨0, by omega, by simp [h]⟩
    · rw [if_neg h] at e
      obtain ⟨j, h1, h2⟩ := num_some e
      exact ⟨j + 1, by omega, by simpa using h2⟩
def made (ns : List Nd) (p l h : Nat) : Nat × List Nd := if l = h then (l, ns) else match num? ns 0 (p, l, h) with
  | some k => (k, ns)
  | none => (ns.length + 2, ns ++ [(p, l, h)])
section
variable {n : Nat} {ns : List Nd}
theorem Wf.made (w : Wf n ns) {p l h : Nat} (hp : p < n) (hl : l < ns.length + 2) (hh : h < ns.length + 2) (pl_ : p < pl n ns l) (ph_ : p < pl n ns h) : ∃ r m, made ns p l h = (r, ns ++ m) ∧ Wf n (ns ++ m) ∧ r < (ns ++ m).length + 2 ∧ (∀ b, ev (ns ++ m) r b = ev ns (if b p then h else l) b) ∧ p ≤ pl n (ns ++ m) r ∧ ((m = [] ∧ (l = h → r = l)) ∨ (m.length = 1 ∧ r = ns.length + 2 ∧ l ≠ h)) ∧ (l ≠ h → ns.length + 1 = l ∨ ns.length + 1 = h → m ≠ []) := by
  unfold Sh.made
  by_cases hlh : l = h
  · subst hlh
    rw [if_pos rfl]
    refine ⟨l, [], by rw [List.append_nil], by rw [List.append_nil]; exact w, by rw [List.append_nil]; exact hl, fun b => by rw [List.append_nil, ite_self], by rw [List.append_nil]; omega, .inl ⟨rfl, fun _ => rfl⟩, fun e => absurd rfl e⟩
  · rw [if_neg hlh]
    cases e : num? ns 0 (p, l, h) with
    | some k =>
      obtain ⟨j, rfl, h2⟩ := num_some e
      rw [Nat.zero_add]
      have h3 : ns[j + 2 - 2]? = some (p, l, h) := h2
      have hj := lt_of_at (by omega) h3
      refine ⟨j + 2, [], by rw [List.append_nil], by rw [List.append_nil]; exact w, by rw [List.append_nil]; exact hj, fun b => by rw [List.append_nil]; exact w.ev_at b (by omega) h3, by rw [List.append_nil, pl_at (by omega) h3]; exact Nat.le_refl _, .inl ⟨rfl, fun e => absurd e hlh⟩, fun _ q => ?_⟩
      obtain ⟨_, _, h4, h5, _⟩ := w.kids (by omega) h3
      omega
    | none =>
      have w2 := w.push hp hlh hl hh pl_ ph_ (num_none.mp e)
      have h3 : (ns ++ [(p, l, h)])[ns.length + 2 - 2]? = some (p, l, h) := by
        rw [Nat.add_sub_cancel, List.getElem?_append_right (Nat.le_refl _), Nat.sub_self]
        rfl
      refine ⟨ns.length + 2, [(p, l, h)], rfl, w2, by simp, fun b => ?_, by rw [pl_at (by omega) h3]; exact Nat.le_refl _, .inr ⟨rfl, rfl, hlh⟩, fun _ _ e => by cases e⟩
      rw [w2.ev_at b (by omega) h3]
      exact w.ev_app w2 _ (by split <;> assumption)
end
/-! two nodes joined: where stop is 0 both, where it is 1 one of both -/
abbrev Kn := Nat → Nat → Option Nat
def kput (kn : Kn) (a c r : Nat) : Kn := fun x y => if x = a ∧ y = c then some r else kn x y
def below (n : Nat) (ns : List Nd) (k p : Nat) : Nat × Nat := if p < pl n ns k then (k, k) else match ns[k - 2]? with
  | some (_, l, h) => (l, h)
  | none => (k, k)
def join (n stop : Nat) : Nat → List Nd → Kn → Nat → Nat → Option (Nat × List Nd × Kn)
  | 0, _, _, _, _ => none
  | f + 1, ns, kn, a, c =>
    if a = stop ∨ c = stop then some (stop, ns, kn)
    else if a = 1 - stop ∨ a = c then some (c, ns, kn)
    else if c = 1 - stop then some (a, ns, kn)
    else match kn a c with
    | some r => some (r, ns, kn)
    | none =>
      match join n stop f ns kn (below n ns a (min (pl n ns a) (pl n ns c))).1 (below n ns c (min (pl n ns a) (pl n ns c))).1 with
      | none => none
      | some (l, ns1, kn1) =>
        match join n stop f ns1 kn1 (below n ns a (min (pl n ns a) (pl n ns c))).2 (below n ns c (min (pl n ns a) (pl n ns c))).2 with
        | none => none
        | some (h, ns2, kn2) => some ((made ns2 (min (pl n ns a) (pl n ns c)) l h).1, (made ns2 (min (pl n ns a) (pl n ns c)) l h).2, kput kn2 a c (made ns2 (min (pl n ns a) (pl n ns c)) l h).1)
def op2 (stop : Nat) (x y : Bool) : Bool := if stop = 0 then x && y else x || y
/-- what is known is right -/
def KnOk (n stop : Nat) (ns : List Nd) (kn : Kn) : Prop := ∀ a c r, kn a c = some r → a < ns.length + 2 ∧ c < ns.length + 2 ∧ r < ns.length + 2 ∧ (∀ b, ev ns r b = op2 stop (ev ns a b) (ev ns c b)) ∧ min (pl n ns a) (pl n ns c) ≤ pl n ns r
theorem KnOk.nil {n stop : Nat} {ns : List Nd} : KnOk n stop ns fun _ _ => none := fun _ _ _ e => by cases e
theorem KnOk.app {n stop : Nat} {ns m : List Nd} {kn : Kn} (w : Wf n ns) (w2 : Wf n (ns ++ m)) (h : KnOk n stop ns kn) : KnOk n stop (ns ++ m) kn := fun a c r e => by
  obtain ⟨h1, h2, h3, h4, h5⟩ := h a c r e
  rw [List.length_append]
  refine ⟨by omega, by omega, by omega, fun b => ?_, ?_⟩
  · rw [w.ev_app w2 r h3, w.ev_app w2 a h1, w.ev_app w2 c h2]
    exact h4 b
  · rw [pl_app h1, pl_app h2, pl_app h3]
    exact h5
section
variable {n stop : Nat} {ns : List Nd}
theorem Wf.below (w : Wf n ns) {k p : Nat} (hk : k < ns.length + 2) (hp : p ≤ pl n ns k) (hn : p < n) : (below n ns k p).1 < ns.length + 2 ∧ (below n ns k p).2 < ns.length + 2 ∧ p < pl n ns (below n ns k p).1 ∧ p < pl n ns (below n ns k p).2 ∧
    ∀ b, ev ns k b = ev ns (if b p then (below n ns k p).2 else (below n ns k p).1) b := by
  unfold Sh.below
  by_cases h : p < pl n ns k
  · rw [if_pos h]
    exact ⟨hk, hk, h, h, fun b => by rw [ite_self]⟩
  · rw [if_neg h]
    have h2 : 2 ≤ k := by
      by_cases h2 : k < 2
      · rw [pl_low h2] at h; omega
      · omega
    obtain ⟨q, l, g, e⟩ := at_some h2 hk
    obtain ⟨_, _, hl, hh, pl_, ph_⟩ := w.kids h2 e
    have ep := pl_at (n := n) h2 e
    have : q = p := by omega
    subst this
    rw [e]
    exact ⟨by show l < _; omega, by show g < _; omega, pl_, ph_, fun b => w.ev_at b h2 e⟩
/-- what joining comes to -/
theorem Wf.join (hs : stop < 2) : ∀ (f : Nat) (ns : List Nd) (kn : Kn) (a c : Nat), Wf n ns → KnOk n stop ns kn → a < ns.length + 2 → c < ns.length + 2 → n < f + min (pl n ns a) (pl n ns c) →
    ∃ r m kn', join n stop f ns kn a c = some (r, ns ++ m, kn') ∧ Wf n (ns ++ m) ∧ KnOk n stop (ns ++ m) kn' ∧ r < (ns ++ m).length + 2 ∧ (∀ b, ev (ns ++ m) r b = op2 stop (ev ns a b) (ev ns c b)) ∧ min (pl n ns a) (pl n ns c) ≤ pl n (ns ++ m) r ∧
      (m = [] ∨ r = (ns ++ m).length + 1) ∧ m.length + 1 ≤ 2 ^ (n - min (pl n ns a) (pl n ns c)) := by
  intro f
  induction f with
  | zero =>
    intro ns kn a c w _ ha hc hf
    have := w.pl_le ha
    omega
  | succ f ih =>
    intro ns kn a c w hkn ha hc hf
    have one_le : 1 ≤ 2 ^ (n - min (pl n ns a) (pl n ns c)) := Nat.one_le_two_pow
    have stays : ∀ r, r < ns.length + 2 → (∀ b, ev ns r b = op2 stop (ev ns a b) (ev ns c b)) → min (pl n ns a) (pl n ns c) ≤ pl n ns r →
        ∃ r' m kn', some (r, ns, kn) = some (r', ns ++ m, kn') ∧ Wf n (ns ++ m) ∧ KnOk n stop (ns ++ m) kn' ∧ r' < (ns ++ m).length + 2 ∧ (∀ b, ev (ns ++ m) r' b = op2 stop (ev ns a b) (ev ns c b)) ∧ min (pl n ns a) (pl n ns c) ≤ pl n (ns ++ m) r' ∧
          (m = [] ∨ r' = (ns ++ m).length + 1) ∧ m.length + 1 ≤ 2 ^ (n - min (pl n ns a) (pl n ns c)) := fun r h1 h2 h3 =>
      ⟨r, [], kn, by rw [List.append_nil], by rw [List.append_nil]; exact w, by rw [List.append_nil]; exact hkn, by rw [List.append_nil]; exact h1, by rw [List.append_nil]; exact h2, by rw [List.append_nil]; exact h3, .inl rfl, one_le⟩
    have c0 : ∀ b, ev ns 0 b = false := fun b => ev_low (by omega)
    have c1 : ∀ b, ev ns 1 b = true := fun b => ev_low (by omega)
    unfold Sh.join
    by_cases h1 : a = stop ∨ c = stop
    · rw [if_pos h1]
      refine stays stop (by omega) (fun b => ?_) (by rw [pl_low hs]; have := w.pl_le ha; omega)
      unfold op2
      rcases (by omega : stop = 0 ∨ stop = 1) with rfl | rfl
      · rw [if_pos rfl]
        rcases h1 with rfl | rfl
        · rw [c0]; rfl
        · rw [c0, Bool.and_false]
      · rw [if_neg (by omega)]
        rcases h1 with rfl | rfl
        · rw [c1]; rfl
        · rw [c1, Bool.or_true]
    rw [if_neg h1]
    by_cases h2 : a = 1 - stop ∨ a = c
    · rw [if_pos h2]
      refine stays c hc (fun b => ?_) (Nat.min_le_right _ _)
      unfold op2
      rcases h2 with h2 | rfl
      · rcases (by omega : stop = 0 ∨ stop = 1) with rfl | rfl
        · rw [if_pos rfl, h2, c1]; rfl
        · rw [if_neg (by omega), h2, c0]; rfl
      · split
        · rw [Bool.and_self]
        · rw [Bool.or_self]
    rw [if_neg h2]
    by_cases h3 : c = 1 - stop
    · rw [if_pos h3]
      refine stays a ha (fun b => ?_) (Nat.min_le_left _ _)
      unfold op2
      rcases (by omega : stop = 0 ∨ stop = 1) with rfl | rfl
      · rw [if_pos rfl, h3, c1, Bool.and_true]
      · rw [if_neg (by omega), h3, c0, Bool.or_false]
    rw [if_neg h3]
    cases hk : kn a c with
    | some r =>
      obtain ⟨_, _, h6, h7, h8⟩ := hkn a c r hk
      exact stays r h6 h7 h8
    | none =>
      have ha2 : 2 ≤ a := by omega
      have hc2 : 2 ≤ c := by omega
      have hpa := w.pl_lt ha2 ha
      have hpc := w.pl_lt hc2 hc
      generalize hp : min (pl n ns a) (pl n ns c) = p at *
      have hpn : p < n := by omega
      obtain ⟨a1, a2, a3, a4, a5⟩ := w.below (p := p) ha (by omega) hpn
      obtain ⟨d1, d2, d3, d4, d5⟩ := w.below (p := p) hc (by omega) hpn
      generalize Sh.below n ns a p = A at *
      generalize Sh.below n ns c p = C at *
      obtain ⟨l, m1, kn1, e1, w1, k1, l1, l2, l3, l4, l5⟩ := ih ns kn A.1 C.1 w hkn a1 d1 (by omega)
      have A2 : A.2 < (ns ++ m1).length + 2 := by rw [List.length_append]; omega
      have C2 : C.2 < (ns ++ m1).length + 2 := by rw [List.length_append]; omega
      obtain ⟨h, m2, kn2, e2, w2, k2, g1, g2, g3, g4, g5⟩ := ih (ns ++ m1) kn1 A.2 C.2 w1 k1 A2 C2 (by rw [pl_app a2, pl_app d2]; omega)
      rw [pl_app a2, pl_app d2] at g3 g5
      have L2 : l < (ns ++ m1 ++ m2).length + 2 := by rw [List.length_append]; omega
      have pL : pl n (ns ++ m1 ++ m2) l = pl n (ns ++ m1) l := pl_app l1
      obtain ⟨r, m3, e3, w3, r1, r2, r3, r4, r5⟩ := w2.made (p := p) (l := l) (h := h) hpn L2 g1 (by omega) (by omega)
      show ∃ r m kn', (match Sh.join n stop f ns kn A.1 C.1 with
        | none => none
        | some (l, ns1, kn1) => match Sh.join n stop f ns1 kn1 A.2 C.2 with
          | none => none
          | some (h, ns2, kn2) => some ((Sh.made ns2 p l h).1, (Sh.made ns2 p l h).2, kput kn2 a c (Sh.made ns2 p l h).1)) = some (r, ns ++ m, kn') ∧ _
      rw [e1]
      show ∃ r m kn', (match Sh.join n stop f (ns ++ m1) kn1 A.2 C.2 with
          | none => none
          | some (h, ns2, kn2) => some ((Sh.made ns2 p l h).1, (Sh.made ns2 p l h).2, kput kn2 a c (Sh.made ns2 p l h).1)) = some (r, ns ++ m, kn') ∧ _
      rw [e2]
      show ∃ r m kn', some ((Sh.made (ns ++ m1 ++ m2) p l h).1, (Sh.made (ns ++ m1 ++ m2) p l h).2, kput kn2 a c (Sh.made (ns ++ m1 ++ m2) p l h).1) = some (r, ns ++ m, kn') ∧ _
      rw [e3]
      have eN : ns ++ m1 ++ m2 ++ m3 = ns ++ (m1 ++ (m2 ++ m3)) := by simp only [List.append_assoc]
      have w4 : Wf n (ns ++ (m1 ++ (m2 ++ m3))) := eN ▸ w3
      have r1' : r < (ns ++ (m1 ++ (m2 ++ m3))).length + 2 := eN ▸ r1
      have r3' : p ≤ pl n (ns ++ (m1 ++ (m2 ++ m3))) r := eN ▸ r3
      have sem : ∀ b, ev (ns ++ (m1 ++ (m2 ++ m3))) r b = op2 stop (ev ns a b) (ev ns c b) := fun b => by
        rw [← eN, r2, a5, d5]
        by_cases hb : b p = true
        · rw [if_pos hb, if_pos hb, if_pos hb, g2, w.ev_app w1 _ a2, w.ev_app w1 _ d2]
        · rw [if_neg hb, if_neg hb, if_neg hb, w1.ev_app w2 _ l1, l2]
      have k3 : KnOk n stop (ns ++ (m1 ++ (m2 ++ m3))) kn2 := eN ▸ k2.app w2 w3
      refine ⟨r, m1 ++ (m2 ++ m3), kput kn2 a c r, by rw [← eN], w4, fun x y z e => ?_, r1', sem, r3', ?_, ?_⟩
      · unfold kput at e
        by_cases hxy : x = a ∧ y = c
        · rw [if_pos hxy] at e
          cases e
          obtain ⟨rfl, rfl⟩ := hxy
          refine ⟨by rw [List.length_append]; omega, by rw [List.length_append]; omega, r1', fun b => ?_, ?_⟩
          · rw [sem, w.ev_app w4 _ ha, w.ev_app w4 _ hc]
          · rw [pl_app ha, pl_app hc]; omega
        · rw [if_neg hxy] at e
          exact k3 x y z e
      · rcases r4 with ⟨rfl, hr⟩ | ⟨q1, q2, _⟩
        · by_cases hlh : l = h
          · subst hlh
            rcases g4 with rfl | g4
            · rw [hr rfl, List.append_nil, List.append_nil]
              exact l4
            · rcases m2 with _ | ⟨t, m2⟩
              · rw [hr rfl, List.append_nil, List.append_nil]
                exact l4
              · rw [List.length_append, List.length_cons] at g4
                omega
          · rcases g4 with rfl | g4
            · rcases l4 with rfl | l4
              · exact .inl rfl
              · exact absurd rfl (r5 hlh (.inl (by rw [List.append_nil]; omega)))
            · exact absurd rfl (r5 hlh (.inr (by omega)))
        · right
          rw [q2, ← eN, List.length_append (bs := m3), q1]
      · have b1 : 2 ^ (n - min (pl n ns A.1) (pl n ns C.1)) ≤ 2 ^ (n - p - 1) := Nat.pow_le_pow_right (by omega) (by omega)
        have b2 : 2 ^ (n - min (pl n ns A.2) (pl n ns C.2)) ≤ 2 ^ (n - p - 1) := Nat.pow_le_pow_right (by omega) (by omega)
        have b3 : 2 ^ (n - p) = 2 ^ (n - p - 1) + 2 ^ (n - p - 1) := by
          have : n - p = (n - p - 1) + 1 := by omega
          rw [this, Nat.pow_succ]
          simp only [Nat.add_sub_cancel]
          omega
        have b4 : m3.length ≤ 1 := by
          rcases r4 with ⟨rfl, _⟩ | ⟨q1, _, _⟩
          · simp
          · omega
        simp only [List.length_append]
        omega
end
/-! the opposite of a node -/
abbrev Kn1 := Nat → Option Nat
def kput1 (kn : Kn1) (a r : Nat) : Kn1 := fun x => if x = a then some r else kn x
def opp : Nat → List Nd → Kn1 → Nat → Option (Nat × List Nd × Kn1)
  | 0, _, _, _ => none
  | f + 1, ns, kn, a =>
    if a < 2 then some (1 - a, ns, kn)
    else match kn a with
    | some r => some (r, ns, kn)
    | none => match ns[a - 2]? with
      | none => none
      | some (p, l, h) => match opp f ns kn l with
        | none => none
        | some (l', ns1, kn1) => match opp f ns1 kn1 h with
          | none => none
          | some (h', ns2, kn2) => some ((made ns2 p l' h').1, (made ns2 p l' h').2, kput1 kn2 a (made ns2 p l' h').1)
def Kn1Ok (n : Nat) (ns : List Nd) (kn : Kn1) : Prop := ∀ a r, kn a = some r → a < ns.length + 2 ∧ r < ns.length + 2 ∧ (∀ b, ev ns r b = !ev ns a b) ∧ pl n ns a ≤ pl n ns r
theorem Kn1Ok.nil {n : Nat} {ns : List Nd} : Kn1Ok n ns fun _ => none := fun _ _ e => by cases e
theorem Kn1Ok.app {n : Nat} {ns m : List Nd} {kn : Kn1} (w : Wf n ns) (w2 : Wf n (ns ++ m)) (h : Kn1Ok n ns kn) : Kn1Ok n (ns ++ m) kn := fun a r e => by
  obtain ⟨h1, h3, h4, h5⟩ := h a r e
  rw [List.length_append]
  refine ⟨by omega, by omega, fun b => ?_, ?_⟩
  · rw [w.ev_app w2 r h3, w.ev_app w2 a h1]
    exact h4 b
  · rw [pl_app h1, pl_app h3]
    exact h5
section
variable {n : Nat} {ns : List Nd}
theorem Wf.opp : ∀ (f : Nat) (ns : List Nd) (kn : Kn1) (a : Nat), Wf n ns → Kn1Ok n ns kn → a < ns.length + 2 → n < f + pl n ns a →
    ∃ r m kn', opp f ns kn a = some (r, ns ++ m, kn') ∧ Wf n (ns ++ m) ∧ Kn1Ok n (ns ++ m) kn' ∧ r < (ns ++ m).length + 2 ∧ (∀ b, ev (ns ++ m) r b = !ev ns a b) ∧ pl n ns a ≤ pl n (ns ++ m) r ∧
      (m = [] ∨ r = (ns ++ m).length + 1) ∧ m.length + 1 ≤ 2 ^ (n - pl n ns a) := by
  intro f
  induction f with
  | zero =>
    intro ns kn a w _ ha hf
    have := w.pl_le ha
    omega
  | succ f ih =>
    intro ns kn a w hkn ha hf
    have one_le : 1 ≤ 2 ^ (n - pl n ns a) := Nat.one_le_two_pow
    have stays : ∀ r, r < ns.length + 2 → (∀ b, ev ns r b = !ev ns a b) → pl n ns a ≤ pl n ns r →
        ∃ r' m kn', some (r, ns, kn) = some (r', ns ++ m, kn') ∧ Wf n (ns ++ m) ∧ Kn1Ok n (ns ++ m) kn' ∧ r' < (ns ++ m).length + 2 ∧ (∀ b, ev (ns ++ m) r' b = !ev ns a b) ∧ pl n ns a ≤ pl n (ns ++ m) r' ∧
          (m = [] ∨ r' = (ns ++ m).length + 1) ∧ m.length + 1 ≤ 2 ^ (n - pl n ns a) := fun r h1 h2 h3 =>
      ⟨r, [], kn, by rw [List.append_nil], by rw [List.append_nil]; exact w, by rw [List.append_nil]; exact hkn, by rw [List.append_nil]; exact h1, by rw [List.append_nil]; exact h2, by rw [List.append_nil]; exact h3, .inl rfl, one_le⟩
    unfold Sh.opp
    by_cases h1 : a < 2
    · rw [if_pos h1]
      refine stays (1 - a) (by omega) (fun b => ?_) (by rw [pl_low h1, pl_low (by omega)]; exact Nat.le_refl _)
      rw [ev_low h1, ev_low (by omega)]
      rcases (by omega : a = 0 ∨ a = 1) with rfl | rfl <;> rfl
    rw [if_neg h1]
    cases hk : kn a with
    | some r =>
      obtain ⟨_, h6, h7, h8⟩ := hkn a r hk
      exact stays r h6 h7 h8
    | none =>
      obtain ⟨p, l, h, e⟩ := at_some (by omega : 2 ≤ a) ha
      obtain ⟨hpn, hlh, hl, hh, pl_, ph_⟩ := w.kids (by omega) e
      have ep := pl_at (n := n) (by omega : 2 ≤ a) e
      rw [ep] at hf ⊢
      rw [e]
      obtain ⟨l', m1, kn1, e1, w1, k1, l1, l2, l3, l4, l5⟩ := ih ns kn l w hkn (by omega) (by omega)
      have H2 : h < (ns ++ m1).length + 2 := by rw [List.length_append]; omega
      obtain ⟨h', m2, kn2, e2, w2, k2, g1, g2, g3, g4, g5⟩ := ih (ns ++ m1) kn1 h w1 k1 H2 (by rw [pl_app (by omega)]; omega)
      rw [pl_app (by omega)] at g3 g5
      have L2 : l' < (ns ++ m1 ++ m2).length + 2 := by rw [List.length_append]; omega
      have pL : pl n (ns ++ m1 ++ m2) l' = pl n (ns ++ m1) l' := pl_app l1
      obtain ⟨r, m3, e3, w3, r1, r2, r3, r4, r5⟩ := w2.made (p := p) (l := l') (h := h') hpn L2 g1 (by omega) (by omega)
      show ∃ r m kn', (match Sh.opp f ns kn l with
        | none => none
        | some (l', ns1, kn1) => match Sh.opp f ns1 kn1 h with
          | none => none
          | some (h', ns2, kn2) => some ((Sh.made ns2 p l' h').1, (Sh.made ns2 p l' h').2, kput1 kn2 a (Sh.made ns2 p l' h').1)) = some (r, ns ++ m, kn') ∧ _
      rw [e1]
      show ∃ r m kn', (match Sh.opp f (ns ++ m1) kn1 h with
          | none => none
          | some (h', ns2, kn2) => some ((Sh.made ns2 p l' h').1, (Sh.made ns2 p l' h').2, kput1 kn2 a (Sh.made ns2 p l' h').1)) = some (r, ns ++ m, kn') ∧ _
      rw [e2]
      show ∃ r m kn', some ((Sh.made (ns ++ m1 ++ m2) p l' h').1, (Sh.made (ns ++ m1 ++ m2) p l' h').2, kput1 kn2 a (Sh.made (ns ++ m1 ++ m2) p l' h').1) = some (r, ns ++ m, kn') ∧ _
      rw [e3]
      have eN : ns ++ m1 ++ m2 ++ m3 = ns ++ (m1 ++ (m2 ++ m3)) := by simp only [List.append_assoc]
      have w4 : Wf n (ns ++ (m1 ++ (m2 ++ m3))) := eN ▸ w3
      have r1' : r < (ns ++ (m1 ++ (m2 ++ m3))).length + 2 := eN ▸ r1
      have r3' : p ≤ pl n (ns ++ (m1 ++ (m2 ++ m3))) r := eN ▸ r3
      have sem : ∀ b, ev (ns ++ (m1 ++ (m2 ++ m3))) r b = !ev ns a b := fun b => by
        rw [← eN, r2, w.ev_at b (by omega) e]
        by_cases hb : b p = true
        · rw [if_pos hb, if_pos hb, g2, w.ev_app w1 _ (by omega)]
        · rw [if_neg hb, if_neg hb, w1.ev_app w2 _ l1, l2]
      have k3 : Kn1Ok n (ns ++ (m1 ++ (m2 ++ m3))) kn2 := eN ▸ k2.app w2 w3
      refine ⟨r, m1 ++ (m2 ++ m3), kput1 kn2 a r, by rw [← eN], w4, fun x z q => ?_, r1', sem, r3', ?_, ?_⟩
      · unfold kput1 at q
        by_cases hxy : x = a
        · rw [if_pos hxy] at q
          cases q
          subst hxy
          refine ⟨by rw [List.length_append]; omega, r1', fun b => ?_, ?_⟩
          · rw [sem, w.ev_app w4 _ ha]
          · rw [pl_app ha, pl_at (by omega) e]; omega
        · rw [if_neg hxy] at q
          exact k3 x z q
      · rcases r4 with ⟨rfl, hr⟩ | ⟨q1, q2, _⟩
        · by_cases hlh : l' = h'
          · subst hlh
            rcases g4 with rfl | g4
            · rw [hr rfl, List.append_nil, List.append_nil]
              exact l4
            · rcases m2 with _ | ⟨t, m2⟩
              · rw [hr rfl, List.append_nil, List.append_nil]
                exact l4
              · rw [List.length_append, List.length_cons] at g4
                omega
          · rcases g4 with rfl | g4
            · rcases l4 with rfl | l4
              · exact .inl rfl
              · exact absurd rfl (r5 hlh (.inl (by rw [List.append_nil]; omega)))
            · exact absurd rfl (r5 hlh (.inr (by omega)))
        · right
          rw [q2, ← eN, List.length_append (bs := m3), q1]
      · have b1 : 2 ^ (n - pl n ns l) ≤ 2 ^ (n - p - 1) := Nat.pow_le_pow_right (by omega) (by omega)
        have b2 : 2 ^ (n - pl n ns h) ≤ 2 ^ (n - p - 1) := Nat.pow_le_pow_right (by omega) (by omega)
        have b3 : 2 ^ (n - p) = 2 ^ (n - p - 1) + 2 ^ (n - p - 1) := by
          have : n - p = (n - p - 1) + 1 := by omega
          rw [this, Nat.pow_succ]
          simp only [Nat.add_sub_cancel]
          omega
        have b4 : m3.length ≤ 1 := by
          rcases r4 with ⟨rfl, _⟩ | ⟨q1, _, _⟩
          · simp
          · omega
        simp only [List.length_append]
        omega
/-- what is there already is not made again -/
theorem last_old {m : List Nd} {r r0 : Nat} (w : Wf n ns) (w2 : Wf n (ns ++ m)) (hl : m = [] ∨ r = (ns ++ m).length + 1) (hr : r < (ns ++ m).length + 2) (h0 : r0 < ns.length + 2) (he : ∀ b, ev (ns ++ m) r b = ev ns r0 b) : m = [] ∧ r = r0 := by
  have e : r = r0 := w2.canon hr (by rw [List.length_append]; omega) fun b => by rw [he, w.ev_app w2 _ h0]
  refine ⟨?_, e⟩
  rcases hl with h | h
  · exact h
  · rcases m with _ | ⟨t, m⟩
    · rfl
    · rw [List.length_append, List.length_cons] at h
      omega
/-- how many nodes there may be in all: those behind the most are refused -/
def most : Nat := 2000
end
end Sh

set_option Elab.async false
set_option linter.all false
set_option maxRecDepth 100000
set_option maxHeartbeats 2000000
namespace Hd
open PySem PySem.Spec PyProof.Rows L2 Ru
section
variable {K : PySem.W.Frag} {h : Heap} {mg : Str → Option Value}
theorem g_of (X : K.In h) (G : h.Ns mainGlobals mg) {x : Str} {a : Addr} (c : gB K x a = true) : mg x = some (.ref a) := PySem.W.mg_of X G (He.eqO_ok c)
theorem no_of (X : K.In h) (G : h.Ns mainGlobals mg) {x : Str} (c : noB K x = true) : mg x = none := PySem.W.mg_none_of X G (He.eqO_ok c)
theorem con_of (X : K.In h) (G : h.Ns mainGlobals mg) {x : Str} {v : V} (c : conB K x v = true) : GlobC mg x v := by
  unfold conB at c
  split at c
  · rename_i u e
    exact globC_mk X G e (He.relB_ok c)
  · cases c
theorem tup_of (X : K.In h) (G : h.Ns mainGlobals mg) {x : Str} {vs : List V} (c : tupB K x vs = true) : GlobT K mg x vs := by
  unfold tupB at c
  split at c
  · rename_i a e
    split at c
    · rename_i k od its n sl q
      obtain ⟨c1, c⟩ := two c
      obtain ⟨c2, c3⟩ := two c
      have ek := of_decide_eq_true c1
      subst ek
      exact globT_mk X G e q (of_decide_eq_true c2) (He.relAll_ok c3)
    · cases c
  · cases c
theorem cls_of (X : K.In h) (G : h.Ns mainGlobals mg) {x : Str} {C : Addr} (c : clsB K x C = true) : ClsAt K mg x C := by
  obtain ⟨a, c⟩ := two c
  obtain ⟨b, c⟩ := two c
  obtain ⟨d, c⟩ := two c
  obtain ⟨e, c⟩ := two c
  obtain ⟨f, c⟩ := two c
  obtain ⟨i, c⟩ := two c
  obtain ⟨j, c⟩ := two c
  obtain ⟨k, c⟩ := two c
  obtain ⟨l, c⟩ := two c
  obtain ⟨m, n⟩ := two c
  exact clsAt_mk X G (He.eqO_ok a) b d e (He.eqO_ok f) (He.eqO_ok i) (He.eqO_ok j) (of_decide_eq_true k) (of_decide_eq_true l) m n
theorem err_of (X : K.In h) (G : h.Ns mainGlobals mg) {x : Str} {C : Addr} (c : errB K x C = true) : ErrAt K mg x C := by
  obtain ⟨a, c⟩ := two c
  obtain ⟨b, c⟩ := two c
  obtain ⟨d, e⟩ := two c
  exact errAt_mk X G (He.eqO_ok a) (of_decide_eq_true b) (of_decide_eq_true d) e
theorem exc_of (X : K.In h) (G : h.Ns mainGlobals mg) {x : Str} {C L : Addr} (c : excB K x C L = true) : ExcAt K mg x C L := by
  obtain ⟨a, c⟩ := two c
  obtain ⟨b, c⟩ := two c
  obtain ⟨d, c⟩ := two c
  obtain ⟨e, c⟩ := two c
  obtain ⟨f, c⟩ := two c
  obtain ⟨i, c⟩ := two c
  obtain ⟨j, c⟩ := two c
  obtain ⟨k, c⟩ := two c
  obtain ⟨l, c⟩ := two c
  obtain ⟨m, c⟩ := two c
  obtain ⟨n, c⟩ := two c
  obtain ⟨o, p⟩ := two c
  unfold mroB at p
  split at p
  · rename_i cd q
    exact excAt_mk X G (He.eqO_ok a) b d (He.eqO_ok e) (He.eqO_ok f) (of_decide_eq_true i) j (He.eqO_ok k) (He.eqO_ok l) (of_decide_eq_true m) (of_decide_eq_true n) (of_decide_eq_true o) q (of_decide_eq_true p)
  · cases p
theorem na_of {C : Addr} {x : Str} (c : naB K C x = true) : NoAttr K C x := He.eqO_ok c
theorem one_of {a b : Addr} {r : Bool} (c : oneB K a b r = true) : PySem.W.kitOne K (.ref a) (.ref b) = some r := of_decide_eq_true c
/-! ## defs -/
theorem def_of (X : K.In h) (G : h.Ns mainGlobals mg) {x : Str} {st : Stmt} {ps : List Str} {f : Addr} (c : gB K x f = true) (F : ∃ fd, FunD K x x (defArgs st) (defBody st) (defScope st) [] [] f fd)
    (b : ∀ (kV doc pm : Value) (an : Option Addr) (cdv ct : Value) (us : List Value), us.length = ps.length → bindArgs (PySem.W.fnOf x x (defArgs st) (defBody st) (defScope st) .none kV doc pm an cdv ct) ⟨us, []⟩ = pure (ps.zip us)) : DefAt K mg x st ps := by
  obtain ⟨fd, F⟩ := F
  obtain ⟨⟨oc, od, kV, doc, pm, an, cdv, ct, osl, e, l, k⟩, kp⟩ := He5.fun_of F
  subst e
  exact defAt_mk X G (He.eqO_ok c) l k kp (b kV doc pm an cdv ct)
theorem law_of (X : K.In h) (G : h.Ns mainGlobals mg) {st : Stmt} {p : Str} {f : Addr} (c : gB K "law" f = true) (F : ∃ fd, FunD K "law" "law" (defArgs st) (defBody st) (defScope st) [] [] f fd)
    (b : ∀ (kV doc pm : Value) (an : Option Addr) (cdv ct : Value) (u : Value), bindArgs (PySem.W.fnOf "law" "law" (defArgs st) (defBody st) (defScope st) .none kV doc pm an cdv ct) ⟨[u], []⟩ = pure [(p, u)]) : LawAt K mg st p := by
  obtain ⟨fd, F⟩ := F
  obtain ⟨⟨oc, od, kV, doc, pm, an, cdv, ct, osl, e, l, k⟩, kp⟩ := He5.fun_of F
  subst e
  exact lawAt_mk X G (He.eqO_ok c) l k kp (b kV doc pm an cdv ct)
theorem met_of {C : Addr} {m qual : Str} {st : Stmt} {ps : List Str} (c : metB K C m = true) (F : ∃ fd, FunD K m qual (defArgs st) (defBody st) (defScope st) [] [] (He.ma K C m) fd)
    (b : ∀ (kV doc pm : Value) (an : Option Addr) (cdv ct : Value) (us : List Value), us.length = ps.length → bindArgs (PySem.W.fnOf m qual (defArgs st) (defBody st) (defScope st) .none kV doc pm an cdv ct) ⟨us, []⟩ = pure (ps.zip us)) : MethAt K C m qual st ps := by
  obtain ⟨fd, F⟩ := F
  obtain ⟨c1, c⟩ := two c
  obtain ⟨c2, c3⟩ := two c
  obtain ⟨⟨oc, od, kV, doc, pm, an, cdv, ct, osl, e, l, k⟩, kp⟩ := He5.fun_of F
  subst e
  exact methAt_mk (He.eqO_ok c1) c2 l k kp (b kV doc pm an cdv ct)
theorem cfn_of {C : Addr} {m qual : Str} {st : Stmt} {ps : List Str} (c : cfnB K C m = true) (F : ∃ fd, FunD K m qual (defArgs st) (defBody st) (defScope st) [] [] (ca K C m) fd)
    (b : ∀ (kV doc pm : Value) (an : Option Addr) (cdv ct : Value) (us : List Value), us.length = ps.length → bindArgs (PySem.W.fnOf m qual (defArgs st) (defBody st) (defScope st) .none kV doc pm an cdv ct) ⟨us, []⟩ = pure (ps.zip us)) : ClsFnAt K C m qual st ps := by
  obtain ⟨fd, F⟩ := F
  obtain ⟨c1, c⟩ := two c
  obtain ⟨c2, c3⟩ := two c
  obtain ⟨⟨oc, od, kV, doc, pm, an, cdv, ct, osl, e, l, k⟩, kp⟩ := He5.fun_of F
  subst e
  refine clsFnAt_mk c1 (He.eqO_ok c2) ?_ l k kp (b kV doc pm an cdv ct)
  unfold ca
  split at c3
  · rename_i f q
    rw [q]
  · cases c3
end
/-! ## a law's end -/
theorem walk {l : PySem.W.OpenLaw} {q : Program} {loose : List Str} {XP : (Str → Option Value) → Heap → Prop} {d : DefRec} {n : List Addr} {k : Nat} {p : Str} {B : PySem.W.Frag → List Bool} {fn : List He5.DefA} (hr : Room k callerA) (hn : l.most = some 63) (hdf : d.params.defaults = []) (hd : d.name = ("law" : Str))
    (F : ∀ (w : World) (mg : Str → Option Value) (fa : Addr) (h : Heap) (K : PySem.W.Frag), K.In h → h.Ns mainGlobals mg → mg "law" = some (.ref fa) → Says B fn K →
      ∃ fd : FuncData, (∀ (s : Shared) (u : Value), BindsTo s fd ⟨[u], []⟩ [(p, u)]) ∧ ∀ base : Heap, K.In base → base.Ns mainGlobals mg → FnOk l.prog w K mg base CX0 k fa fd [p] (spLaw K)) :
    PySem.W.WalkO q loose XP (hook n B fn).says l.row.toRowW d [] (fun f vs => PySem.call f vs) :=
  L2.walk_ofE (n := 63) (CX := CX0) hn (by decide) hdf hr (fun w mg fa h Y G hmg => by
    obtain ⟨K, X, c⟩ := Y
    rw [hd] at hmg
    obtain ⟨fd, hb, ok⟩ := F w mg fa h K X G hmg c
    exact ⟨K, fd, spLaw K, X, hb, fun H a ns hl _ hS => ⟨a, ns, rfl, hS, hl, fun _ => rfl⟩, ok⟩) fun _ _ _ _ z => z
end Hd

set_option Elab.async false
set_option linter.all false
set_option maxRecDepth 100000
set_option maxHeartbeats 2000000
section
open PySem L2 Ru
local macro_rules | `(tactic| walk_at "rd") => `(tactic| try simp only [tSeq, tAsg, gName, tVar, tC, tOp, rI, rI0, tRet, tDrop, tIfS, tTest, tB, tAndV, tOrV, tNotV, tAnd, tOr, tNot, tIf, tCall, tCons, tNil, tCB, tAug, rEq, rNe, tNext, tRetN, L2.start, List.map_cons, List.map_nil, List.length_cons, List.length_nil, List.replicate, List.cons_append, List.nil_append, List.append_nil, List.getElem?_cons_zero, List.getElem?_cons_succ, List.set_cons_zero, List.set_cons_succ, Option.some.injEq, V.int.injEq, V.str.injEq, V.bl.injEq, V.ref.injEq, List.cons.injEq, exists_eq_left, exists_eq_left', exists_eq_right, exists_and_left, exists_const, true_and, and_true, CDiv, CMul, Int.reduceLT, Int.reduceLE, Int.reducePow, Int.reduceNeg, true_or, or_true, wipe, gcons_eq, gnil_eq, cxOf_K, tSl, rSlS, tLst, tTup, rIsF, isBlV, isIntV, flat_s, flat_i, flat_b, flat_n, rIsB, rNotB, tPart, tNoPart, rIxS, reduceCtorEq, false_and, and_false, false_or, or_false, scal_ii, scal_bb, scal_ss, scal_sb, scal_bs, decide_true, decide_false, if_true, if_false, Bool.false_eq_true, Bool.not_true, Bool.not_false, ite_true, ite_false])

namespace My
theorem z_set : True := trivial
def top (i : Nat) : Stmt := PySem.Challenge.pw_rungworks_k35_refused.main.body.getD i (.Pass ⟨0, 0, 0, 0⟩)
/-! ## names -/
def isLow (c : Nat) : Bool := decide (97 ≤ c ∧ c ≤ 122)
def isWord (z : Str) : Bool := z.cps.toList.all isLow && !z.cps.toList.isEmpty
abbrev sSIGNS : Str := "abcdefghijklmnopqrstuvwxyz"
def keptL : List Str := ["on", "off", "and", "or", "not", "set", "reset", "timer", "counter", "inputs", "outputs"]
def keptV : List V := keptL.map V.str
def isName (z : Str) : Bool := isWord z && decide (z.length ≤ 8) && !decide (z ∈ keptL)
theorem signs_cps : sSIGNS.cps.toList = (List.range 26).map (· + 97) := by decide +kernel
theorem mem_signs {c : Nat} : c ∈ sSIGNS.cps.toList ↔ isLow c = true := by
  rw [signs_cps, List.mem_map]
  unfold isLow
  rw [decide_eq_true_eq]
  constructor
  · rintro ⟨a, h, rfl⟩
    rw [List.mem_range] at h
    omega
  · intro h
    exact ⟨c - 97, List.mem_range.mpr (by omega), by omega⟩
theorem dec_signs {c : Nat} : decide (c ∈ sSIGNS.cps.toList) = isLow c := by
  rw [Bool.eq_iff_iff, decide_eq_true_eq]
  exact mem_signs
theorem inV_strs (z : Str) : ∀ l : List Str, inV (.str z) (l.map V.str) = decide (z ∈ l)
  | [] => by simp [inV]
  | x :: l => by
    have ih := inV_strs z l
    unfold inV at ih ⊢
    rw [List.map_cons, List.any_cons, ih]
    rw [Bool.eq_iff_iff]
    simp [eqV]
    constructor
    · rintro (h | h)
      · exact .inl h.symm
      · exact .inr h
    · rintro (h | h)
      · exact .inl h.symm
      · exact .inr h
theorem flat_strs : ∀ l : List Str, (l.map V.str).all flatV = true
  | [] => rfl
  | x :: l => by rw [List.map_cons, List.all_cons, flat_strs l]; rfl
theorem isWord_ne {z : Str} : (z ≠ ("" : Str)) ↔ z.cps.toList.isEmpty = false := by
  obtain ⟨a⟩ := z
  have e : ("" : Str) = ⟨#[]⟩ := by decide +kernel
  rw [e]
  cases h : a.toList with
  | nil =>
    have : a = #[] := by
      apply Array.ext'
      rw [h]
    subst this
    simp
  | cons x r =>
    refine ⟨fun _ => rfl, fun _ q => ?_⟩
    have q' : a = #[] := by injection q
    subst q'
    cases h
def spIsWord : Sp := fun vs H Q _ => ∃ z : Str, vs = [.str z] ∧ Q (.bl (isWord z)) H
def spIsName : Sp := fun vs H Q _ => ∃ z : Str, vs = [.str z] ∧ z.length ≤ sizeLine ∧ Q (.bl (isName z)) H
abbrev s_is_word : Stmt := top 17
theorem sc_is_word : FnScope ["text", "sign"] ["text"] (defScope s_is_word) := ⟨rfl, rfl, rfl, by decide +kernel, rfl, by decide +kernel, by decide +kernel⟩
abbrev s_is_name : Stmt := top 18
theorem sc_is_name : FnScope ["name"] ["name"] (defScope s_is_name) := ⟨rfl, rfl, rfl, by decide +kernel, rfl, by decide +kernel, by decide +kernel⟩
structure TNames (K : PySem.W.Frag) (mg : Str → Option Value) : Prop where
  d_is_word : DefAt K mg "is_word" s_is_word ["text"]
  d_is_name : DefAt K mg "is_name" s_is_name ["name"]
  g_SIGNS : GlobC mg "SIGNS" (.str sSIGNS)
  g_MOST_SIGNS : GlobC mg "MOST_SIGNS" (.int 8)
  g_KEPT : GlobT K mg "KEPT" keptV
  z_len : mg "len" = none
section
variable {P : Program} {w : World} {K : PySem.W.Frag} {mg : Str → Option Value} {base : Heap}
theorem ok_is_word (T : TNames K mg) : FnAt P w K mg base CX0 "is_word" 1 ["text"] spIsWord := by
  refine fnAt_ok T.d_is_word sc_is_word (fun vs H Q E h => ?_) (fun f cdv A outer s H vs Q E hr h => ?_)
  · obtain ⟨z, rfl, _⟩ := h; rfl
  · obtain ⟨z, rfl, k⟩ := h
    refine ⟨_, (pss_cons (ps_for PassesOwn.never rfl (pi_str (pv 0)) (pg_name (i := 1) sc_is_word.nd rfl (by first | exact Or.inl rfl | exact Or.inr rfl)) (pss_one (ps_if (pt_cmpR op_notIn_sign (pv 1) (pe_gc T.g_SIGNS) rfl) (pss_one (ps_ret pe_bl)) pss_nil)))
        (pss_one (ps_ret (pe_cmpR op_ne (pv 0) pe_str (nomark _))))), ?_⟩
    refine ⟨_, rfl, z, rfl, for_str (x := z) (fun i σ H' => ∃ v, σ = [some (.str z), v] ∧ H' = H ∧ (z.cps.toList.take i).all isLow = true) ⟨none, rfl, rfl, rfl⟩ ?_ ?_⟩
    · rintro i c σ H' hi ⟨v, rfl, rfl, hp⟩
      have hi' : z.cps.toList[i]? = some c := by simpa using hi
      walk_at "rd"
      refine ⟨c, rfl, ?_⟩
      rw [dec_signs]
      by_cases hc : isLow c = true
      · rw [hc]
        simp only [Bool.not_true, Bool.false_eq_true, if_false]
        rw [List.take_succ, hi', List.all_append, hp]
        simp [hc]
      · have hc' : isLow c = false := by simpa using hc
        rw [hc']
        refine iteT ?_
        have e : isWord z = false := by
          unfold isWord
          rw [Bool.and_eq_false_iff]
          left
          rw [List.all_eq_false]
          exact ⟨c, List.mem_of_getElem? hi', by simp [hc']⟩
        rw [e] at k
        exact k
    · rintro σ H' ⟨v, rfl, rfl, hp⟩
      walk_at "rd"
      have e : (!decide (z = "")) = isWord z := by
        unfold isWord
        have hp' : z.cps.toList.all isLow = true := by
          have : z.cps.toList.take z.cps.size = z.cps.toList := by
            rw [List.take_of_length_le]
            simp
          rw [this] at hp
          exact hp
        rw [hp', Bool.true_and, Bool.eq_iff_iff]
        simp only [Bool.not_eq_true', decide_eq_false_iff_not]
        exact isWord_ne
      rw [e]
      exact k
theorem ok_is_name (T : TNames K mg) : FnAt P w K mg base CX0 "is_name" 2 ["name"] spIsName := by
  have G_is_word : FnAt P w K mg base CX0 "is_word" 1 _ spIsWord := ok_is_word T
  refine fnAt_ok T.d_is_name sc_is_name (fun vs H Q E h => ?_) (fun f cdv A outer s H vs Q E hr h => ?_)
  · obtain ⟨z, rfl, _⟩ := h; rfl
  · obtain ⟨z, rfl, hz, k⟩ := h
    refine ⟨_, (pss_one (ps_ret (pe_and (pe_callF G_is_word hr pass0 (pa_cons (pv 0) pa_nil)) (pe_and (pe_cmpR op_le (pe_callB call_len_str (by rfl) T.z_len PySem.boot_len (pa_cons (pv 0) pa_nil)) (pe_gc T.g_MOST_SIGNS) (nomark _)) (pe_one (pe_cmp (pc_notInK T.g_KEPT (pv 0)))))))), ?_⟩
    walk_at "rd"
    refine ⟨z, rfl, ?_⟩
    unfold isName at k
    cases hw : isWord z with
    | false =>
      rw [hw] at k
      exact ⟨false, rfl, iteF k⟩
    | true =>
      rw [hw] at k
      refine ⟨true, rfl, iteT ⟨hz, ?_⟩⟩
      by_cases hl : z.length ≤ 8
      · have hl' : ((z.length : Nat) : Int) ≤ 8 := by omega
        rw [decide_eq_true hl']
        refine iteT ⟨flat_strs _, ?_⟩
        unfold keptV
        rw [inV_strs]
        rw [decide_eq_true hl] at k
        exact k
      · have hl' : ¬ ((z.length : Nat) : Int) ≤ 8 := by omega
        rw [decide_eq_false hl']
        rw [decide_eq_false hl] at k
        exact iteF k
end

/-! ## conditions: the plain side -/
inductive Cond where
  | fixed (b : Bool)
  | contact (n : Str)
  | not (c : Cond)
  | grp (s : Bool) (cs : List Cond)
mutual
def Cond.size : Cond → Nat
  | .fixed _ => 1
  | .contact _ => 1
  | .not c => c.size + 1
  | .grp _ cs => Cond.sizes cs + 1
def Cond.sizes : List Cond → Nat
  | [] => 0
  | c :: cs => c.size + Cond.sizes cs
end
mutual
def Cond.depth : Cond → Nat
  | .fixed _ => 1
  | .contact _ => 1
  | .not c => c.depth + 1
  | .grp _ cs => Cond.depths cs + 1
def Cond.depths : List Cond → Nat
  | [] => 0
  | c :: cs => max c.depth (Cond.depths cs)
end
def Cond.kids : Cond → List Cond
  | .fixed _ => []
  | .contact _ => []
  | .not c => [c]
  | .grp _ cs => cs
theorem Cond.depth_kids (c : Cond) : c.depth = Cond.depths c.kids + 1 := by
  cases c <;> simp [Cond.depth, Cond.kids, Cond.depths]
theorem Cond.size_kids (c : Cond) : c.size = Cond.sizes c.kids + 1 := by
  cases c <;> simp [Cond.size, Cond.kids, Cond.sizes]
theorem Cond.depth_pos (c : Cond) : 1 ≤ c.depth := by rw [Cond.depth_kids]; omega
theorem Cond.size_pos (c : Cond) : 1 ≤ c.size := by rw [Cond.size_kids]; omega
theorem Cond.depth_mem : ∀ {cs : List Cond} {c : Cond}, c ∈ cs → c.depth ≤ Cond.depths cs
  | x :: cs, c, h => by
    rw [Cond.depths]
    rcases List.mem_cons.mp h with rfl | h
    · omega
    · have := Cond.depth_mem h
      omega
theorem Cond.size_mem : ∀ {cs : List Cond} {c : Cond}, c ∈ cs → c.size ≤ Cond.sizes cs
  | x :: cs, c, h => by
    rw [Cond.sizes]
    rcases List.mem_cons.mp h with rfl | h
    · omega
    · have := Cond.size_mem h
      omega
theorem Cond.sizes_sum : ∀ cs : List Cond, Cond.sizes cs = (cs.map Cond.size).sum
  | [] => rfl
  | c :: cs => by rw [Cond.sizes, Cond.sizes_sum cs, List.map_cons, List.sum_cons]
theorem Cond.len_sizes : ∀ cs : List Cond, cs.length ≤ Cond.sizes cs
  | [] => Nat.le_refl _
  | c :: cs => by
    have h1 := Cond.len_sizes cs
    have h2 := c.size_pos
    rw [Cond.sizes, List.length_cons]
    omega
theorem Cond.depths_le : ∀ cs : List Cond, Cond.depths cs ≤ Cond.sizes cs
  | [] => Nat.le_refl _
  | c :: cs => by
    have ih := Cond.depths_le cs
    have h2 : c.depth ≤ c.size := by
      rw [Cond.depth_kids, Cond.size_kids]
      have := Cond.depths_le c.kids
      omega
    rw [Cond.depths, Cond.sizes]
    omega
termination_by cs => Cond.sizes cs
decreasing_by
  · have := c.size_pos
    simp [Cond.sizes]
    omega
  · have := Cond.size_kids c
    simp [Cond.sizes]
    omega
/-- a truth of each name -/
abbrev Im := Str → Bool
mutual
def Cond.holds (f : Im) : Cond → Bool
  | .fixed b => b
  | .contact n => f n
  | .not c => !c.holds f
  | .grp true cs => Cond.alls f cs
  | .grp false cs => Cond.anys f cs
def Cond.alls (f : Im) : List Cond → Bool
  | [] => true
  | c :: cs => c.holds f && Cond.alls f cs
def Cond.anys (f : Im) : List Cond → Bool
  | [] => false
  | c :: cs => c.holds f || Cond.anys f cs
end
theorem Cond.alls_map (f : Im) : ∀ cs : List Cond, Cond.alls f cs = (cs.map (Cond.holds f)).all id
  | [] => rfl
  | c :: cs => by rw [Cond.alls, Cond.alls_map f cs]; rfl
theorem Cond.anys_map (f : Im) : ∀ cs : List Cond, Cond.anys f cs = (cs.map (Cond.holds f)).any id
  | [] => rfl
  | c :: cs => by rw [Cond.anys, Cond.anys_map f cs]; rfl
/-- names put behind those that are there, each once -/
def addN (l : List Str) (n : Str) : List Str := if n ∈ l then l else l ++ [n]
mutual
def Cond.gather (l : List Str) : Cond → List Str
  | .fixed _ => l
  | .contact n => addN l n
  | .not c => c.gather l
  | .grp _ cs => Cond.gathers l cs
def Cond.gathers (l : List Str) : List Cond → List Str
  | [] => l
  | c :: cs => Cond.gathers (c.gather l) cs
end
def Cond.contacts (c : Cond) : List Str := c.gather []
theorem Cond.gathers_fold : ∀ (l : List Str) (cs : List Cond), Cond.gathers l cs = cs.foldl Cond.gather l
  | l, [] => rfl
  | l, c :: cs => by rw [Cond.gathers, Cond.gathers_fold (c.gather l) cs]; rfl
def word (s : Bool) : Str := if s then "and" else "or"
mutual
def Cond.told : Cond → PyData
  | .fixed b => .tuple [.str "fixed", .bool b]
  | .contact n => .tuple [.str "contact", .str n]
  | .not c => .tuple [.str "not", c.told]
  | .grp s cs => .tuple (.str (word s) :: Cond.tolds cs)
def Cond.tolds : List Cond → List PyData
  | [] => []
  | c :: cs => c.told :: Cond.tolds cs
end
theorem Cond.tolds_map : ∀ cs : List Cond, Cond.tolds cs = cs.map Cond.told
  | [] => rfl
  | c :: cs => by rw [Cond.tolds, Cond.tolds_map cs]; rfl
theorem sizes_app : ∀ a b : List Cond, Cond.sizes (a ++ b) = Cond.sizes a + Cond.sizes b
  | [], b => by simp [Cond.sizes]
  | x :: a, b => by rw [List.cons_append, Cond.sizes, Cond.sizes, sizes_app a b]; omega

--%% M1
/-! ## parts: the objects -/
/-- the five classes -/
structure Cl where
  fx : Addr
  ct : Addr
  tn : Addr
  sr : Addr
  br : Addr
def Cl.gr (cl : Cl) (s : Bool) : Addr := if s then cl.sr else cl.br
def Cl.has (cl : Cl) (C : Addr) : Prop := C = cl.fx ∨ C = cl.ct ∨ C = cl.tn ∨ C = cl.sr ∨ C = cl.br
theorem Cl.has_gr (cl : Cl) (s : Bool) : cl.has (cl.gr s) := by
  cases s <;> simp [Cl.gr, Cl.has]
mutual
/-- at v stands the condition c -/
inductive IsP (cl : Cl) (H : Hp) : V → Cond → Prop
  | fixed {a dx : Addr} {b : Bool} (h : H a = some (.ins cl.fx dx [("value", .bl b)])) : IsP cl H (.ref a) (.fixed b)
  | contact {a dx : Addr} {n : Str} (h : H a = some (.ins cl.ct dx [("name", .str n)])) : IsP cl H (.ref a) (.contact n)
  | not {a dx : Addr} {v : V} {c : Cond} (h : H a = some (.ins cl.tn dx [("part", v)])) (p : IsP cl H v c) : IsP cl H (.ref a) (.not c)
  | grp {a dx t : Addr} {vs : List V} {s : Bool} {cs : List Cond} (h : H a = some (.ins (cl.gr s) dx [("parts", .ref t)])) (ht : H t = some (.tup vs)) (p : IsPs cl H vs cs) : IsP cl H (.ref a) (.grp s cs)
inductive IsPs (cl : Cl) (H : Hp) : List V → List Cond → Prop
  | nil : IsPs cl H [] []
  | cons {v : V} {vs : List V} {c : Cond} {cs : List Cond} (h : IsP cl H v c) (t : IsPs cl H vs cs) : IsPs cl H (v :: vs) (c :: cs)
end
section
variable {cl : Cl} {H H' : Hp} {v : V} {vs : List V} {c : Cond} {cs : List Cond}
mutual
theorem IsP.mono (k : Imm cl.has H H') : ∀ {v : V} {c : Cond}, IsP cl H v c → IsP cl H' v c
  | _, _, .fixed h => .fixed (k _ _ h (.inl rfl))
  | _, _, .contact h => .contact (k _ _ h (.inr (.inl rfl)))
  | _, _, .not h p => .not (k _ _ h (.inr (.inr (.inl rfl)))) (p.mono k)
  | _, _, .grp h ht p => .grp (k _ _ h (cl.has_gr _)) (k _ _ ht trivial) (p.mono k)
theorem IsPs.mono (k : Imm cl.has H H') : ∀ {vs : List V} {cs : List Cond}, IsPs cl H vs cs → IsPs cl H' vs cs
  | _, _, .nil => .nil
  | _, _, .cons p t => .cons (p.mono k) (t.mono k)
end
theorem IsPs.length : ∀ {vs : List V} {cs : List Cond}, IsPs cl H vs cs → vs.length = cs.length
  | _, _, .nil => rfl
  | _, _, .cons _ t => by rw [List.length_cons, List.length_cons, IsPs.length t]
theorem IsPs.at : ∀ {vs : List V} {cs : List Cond} {i : Nat} {v : V}, IsPs cl H vs cs → vs[i]? = some v → ∃ c, cs[i]? = some c ∧ IsP cl H v c
  | _, _, i, v, .nil, h => by simp at h
  | _, _, 0, v, .cons p t, h => by
    simp at h
    subst h
    exact ⟨_, rfl, p⟩
  | _, _, i + 1, v, .cons p t, h => by
    obtain ⟨c, h1, h2⟩ := IsPs.at (i := i) (v := v) t (by simpa using h)
    exact ⟨c, by simpa using h1, h2⟩
theorem IsPs.snoc : ∀ {vs : List V} {cs : List Cond} {v : V} {c : Cond}, IsPs cl H vs cs → IsP cl H v c → IsPs cl H (vs ++ [v]) (cs ++ [c])
  | _, _, _, _, .nil, p => .cons p .nil
  | _, _, _, _, .cons q t, p => .cons q (t.snoc p)
/-- the receiver: an instance of one of the five -/
theorem IsP.obj (p : IsP cl H v c) : ∃ a C dx f x, v = .ref a ∧ H a = some (.ins C dx [(f, x)]) ∧ cl.has C ∧ (f = "value" ∨ f = "name" ∨ f = "part" ∨ f = "parts") := by
  cases p with
  | fixed h => exact ⟨_, _, _, _, _, rfl, h, .inl rfl, .inl rfl⟩
  | contact h => exact ⟨_, _, _, _, _, rfl, h, .inr (.inl rfl), .inr (.inl rfl)⟩
  | not h _ => exact ⟨_, _, _, _, _, rfl, h, .inr (.inr (.inl rfl)), .inr (.inr (.inl rfl))⟩
  | grp h _ _ => exact ⟨_, _, _, _, _, rfl, h, cl.has_gr _, .inr (.inr (.inr rfl))⟩
end
/-- no method is called like a field -/
def notField (m : Str) : Bool := !(m == "value") && !(m == "name") && !(m == "part") && !(m == "parts")
theorem lookup_field {m f : Str} {x : V} (hm : notField m = true) (hf : f = "value" ∨ f = "name" ∨ f = "part" ∨ f = "parts") : List.lookup m [(f, x)] = none := by
  unfold notField at hm
  simp only [Bool.and_eq_true, Bool.not_eq_true'] at hm
  obtain ⟨⟨⟨h1, h2⟩, h3⟩, h4⟩ := hm
  rcases hf with rfl | rfl | rfl | rfl <;> exact lk1 (by assumption)
/-- what the call of a method of a part asks -/
theorem meth_of {cl : Cl} {H : Hp} {v : V} {c : Cond} {m : Str} (hm : notField m = true) (p : IsP cl H v c) : ∃ a C dx fs, v = .ref a ∧ H a = some (.ins C dx fs) ∧ cl.has C ∧ fs.lookup m = none := by
  obtain ⟨a, C, dx, f, x, rfl, h, hc, hf⟩ := p.obj
  exact ⟨a, C, dx, _, rfl, h, hc, lookup_field hm hf⟩
theorem look_of {cl : Cl} {H : Hp} {a C dx : Addr} {fs : List (Str × V)} {c : Cond} {m : Str} (hm : notField m = true) (ha : H a = some (.ins C dx fs)) (p : IsP cl H (.ref a) c) : fs.lookup m = none := by
  obtain ⟨a', C', dx', f, x, e, h, hc, hf⟩ := p.obj
  injection e with e
  subst e
  rw [ha] at h
  cases h
  exact lookup_field hm hf

abbrev s_Part_inner : Stmt := inClass (top 22) 0
theorem sc_Part_inner : FnScope ["self"] ["self"] (defScope s_Part_inner) := ⟨rfl, rfl, rfl, by decide +kernel, rfl, by decide +kernel, by decide +kernel⟩
abbrev s_Turned_inner : Stmt := inClass (top 25) 1
theorem sc_Turned_inner : FnScope ["self"] ["self"] (defScope s_Turned_inner) := ⟨rfl, rfl, rfl, by decide +kernel, rfl, by decide +kernel, by decide +kernel⟩
abbrev s_Group_inner : Stmt := inClass (top 26) 1
theorem sc_Group_inner : FnScope ["self"] ["self"] (defScope s_Group_inner) := ⟨rfl, rfl, rfl, by decide +kernel, rfl, by decide +kernel, by decide +kernel⟩
abbrev s_Part_size : Stmt := inClass (top 22) 4
theorem sc_Part_size : FnScope ["self", "part"] ["self"] (defScope s_Part_size) := ⟨rfl, rfl, rfl, by decide +kernel, rfl, by decide +kernel, by decide +kernel⟩
abbrev s_Part_depth : Stmt := inClass (top 22) 5
theorem sc_Part_depth : FnScope ["self", "part"] ["self"] (defScope s_Part_depth) := ⟨rfl, rfl, rfl, by decide +kernel, rfl, by decide +kernel, by decide +kernel⟩
abbrev s_Part_bounded : Stmt := inClass (top 22) 8
theorem sc_Part_bounded : FnScope ["self"] ["self"] (defScope s_Part_bounded) := ⟨rfl, rfl, rfl, by decide +kernel, rfl, by decide +kernel, by decide +kernel⟩
structure TParts (K : PySem.W.Frag) (mg : Str → Option Value) (cl : Cl) : Prop where
  c_Fixed : ClsAt K mg "Fixed" cl.fx
  c_Contact : ClsAt K mg "Contact" cl.ct
  c_Turned : ClsAt K mg "Turned" cl.tn
  c_Series : ClsAt K mg "Series" cl.sr
  c_Branch : ClsAt K mg "Branch" cl.br
  nd : [cl.fx, cl.ct, cl.tn, cl.sr, cl.br].Nodup
  nv_fx : NoAttr K cl.fx "value"
  nn_ct : NoAttr K cl.ct "name"
  np_tn : NoAttr K cl.tn "part"
  np_sr : NoAttr K cl.sr "parts"
  np_br : NoAttr K cl.br "parts"
  m_inner_fx : MethAt K cl.fx "inner" "Part.inner" s_Part_inner ["self"]
  m_inner_ct : MethAt K cl.ct "inner" "Part.inner" s_Part_inner ["self"]
  m_inner_tn : MethAt K cl.tn "inner" "Turned.inner" s_Turned_inner ["self"]
  m_inner_sr : MethAt K cl.sr "inner" "Group.inner" s_Group_inner ["self"]
  m_inner_br : MethAt K cl.br "inner" "Group.inner" s_Group_inner ["self"]
  m_size_fx : MethAt K cl.fx "size" "Part.size" s_Part_size ["self"]
  m_size_ct : MethAt K cl.ct "size" "Part.size" s_Part_size ["self"]
  m_size_tn : MethAt K cl.tn "size" "Part.size" s_Part_size ["self"]
  m_size_sr : MethAt K cl.sr "size" "Part.size" s_Part_size ["self"]
  m_size_br : MethAt K cl.br "size" "Part.size" s_Part_size ["self"]
  m_depth_fx : MethAt K cl.fx "depth" "Part.depth" s_Part_depth ["self"]
  m_depth_ct : MethAt K cl.ct "depth" "Part.depth" s_Part_depth ["self"]
  m_depth_tn : MethAt K cl.tn "depth" "Part.depth" s_Part_depth ["self"]
  m_depth_sr : MethAt K cl.sr "depth" "Part.depth" s_Part_depth ["self"]
  m_depth_br : MethAt K cl.br "depth" "Part.depth" s_Part_depth ["self"]
  m_bounded_tn : MethAt K cl.tn "bounded" "Part.bounded" s_Part_bounded ["self"]
  m_bounded_sr : MethAt K cl.sr "bounded" "Part.bounded" s_Part_bounded ["self"]
  m_bounded_br : MethAt K cl.br "bounded" "Part.bounded" s_Part_bounded ["self"]
  z_sum : mg "sum" = none
  z_max : mg "max" = none
  z_tuple : mg "tuple" = none
  g_MOST_SIZE : GlobC mg "MOST_SIZE" (.int 60)
  g_MOST_DEEP : GlobC mg "MOST_DEEP" (.int 20)
section
variable {P : Program} {w : World} {K : PySem.W.Frag} {mg : Str → Option Value} {base : Heap} {cl : Cl}
theorem TParts.gr (T : TParts K mg cl) (s : Bool) : ∃ x, ClsAt K mg x (cl.gr s) := by
  cases s
  · exact ⟨_, T.c_Branch⟩
  · exact ⟨_, T.c_Series⟩
theorem TParts.np (T : TParts K mg cl) (s : Bool) : NoAttr K (cl.gr s) "parts" := by
  cases s
  · exact T.np_br
  · exact T.np_sr
theorem TParts.cls (T : TParts K mg cl) {C : Addr} (h : cl.has C) : Cls K C := by
  rcases h with rfl | rfl | rfl | rfl | rfl
  · exact T.c_Fixed.cl
  · exact T.c_Contact.cl
  · exact T.c_Turned.cl
  · exact T.c_Series.cl
  · exact T.c_Branch.cl
/-- by the class, what stands there -/
theorem inv_fx (nd : [cl.fx, cl.ct, cl.tn, cl.sr, cl.br].Nodup) {H : Hp} {a dx : Addr} {fs : List (Str × V)} {c : Cond} (h : H a = some (.ins cl.fx dx fs)) (p : IsP cl H (.ref a) c) : ∃ b, c = .fixed b ∧ fs = ([("value", .bl b)] : List (Str × V)) := by
  simp only [List.nodup_cons, List.mem_cons, List.not_mem_nil, or_false, not_or] at nd
  cases p with
  | fixed q => rw [q] at h; cases h; exact ⟨_, rfl, rfl⟩
  | contact q => rw [q] at h; injection h with h; injection h with h; exact absurd h.symm nd.1.1
  | not q _ => rw [q] at h; injection h with h; injection h with h; exact absurd h.symm nd.1.2.1
  | @grp _ _ _ _ s _ q _ _ =>
    rw [q] at h; injection h with h; injection h with h
    cases s
    · exact absurd h.symm nd.1.2.2.2
    · exact absurd h.symm nd.1.2.2.1
theorem inv_ct (nd : [cl.fx, cl.ct, cl.tn, cl.sr, cl.br].Nodup) {H : Hp} {a dx : Addr} {fs : List (Str × V)} {c : Cond} (h : H a = some (.ins cl.ct dx fs)) (p : IsP cl H (.ref a) c) : ∃ n, c = .contact n ∧ fs = ([("name", .str n)] : List (Str × V)) := by
  simp only [List.nodup_cons, List.mem_cons, List.not_mem_nil, or_false, not_or] at nd
  cases p with
  | fixed q => rw [q] at h; injection h with h; injection h with h; exact absurd h nd.1.1
  | contact q => rw [q] at h; cases h; exact ⟨_, rfl, rfl⟩
  | not q _ => rw [q] at h; injection h with h; injection h with h; exact absurd h.symm nd.2.1.1
  | @grp _ _ _ _ s _ q _ _ =>
    rw [q] at h; injection h with h; injection h with h
    cases s
    · exact absurd h.symm nd.2.1.2.2
    · exact absurd h.symm nd.2.1.2.1
theorem inv_tn (nd : [cl.fx, cl.ct, cl.tn, cl.sr, cl.br].Nodup) {H : Hp} {a dx : Addr} {fs : List (Str × V)} {c : Cond} (h : H a = some (.ins cl.tn dx fs)) (p : IsP cl H (.ref a) c) : ∃ v c', c = .not c' ∧ fs = ([("part", v)] : List (Str × V)) ∧ IsP cl H v c' := by
  simp only [List.nodup_cons, List.mem_cons, List.not_mem_nil, or_false, not_or] at nd
  cases p with
  | fixed q => rw [q] at h; injection h with h; injection h with h; exact absurd h nd.1.2.1
  | contact q => rw [q] at h; injection h with h; injection h with h; exact absurd h nd.2.1.1
  | not q p => rw [q] at h; cases h; exact ⟨_, _, rfl, rfl, p⟩
  | @grp _ _ _ _ s _ q _ _ =>
    rw [q] at h; injection h with h; injection h with h
    cases s
    · exact absurd h.symm nd.2.2.1.2
    · exact absurd h.symm nd.2.2.1.1
theorem inv_gr (nd : [cl.fx, cl.ct, cl.tn, cl.sr, cl.br].Nodup) {H : Hp} {a dx C : Addr} {fs : List (Str × V)} {c : Cond} {s : Bool} (hC : C = cl.gr s) (h : H a = some (.ins C dx fs)) (p : IsP cl H (.ref a) c) :
    ∃ t vs cs, c = .grp s cs ∧ fs = ([("parts", .ref t)] : List (Str × V)) ∧ H t = some (.tup vs) ∧ IsPs cl H vs cs := by
  subst hC
  simp only [List.nodup_cons, List.mem_cons, List.not_mem_nil, or_false, not_or] at nd
  cases p with
  | fixed q =>
    rw [q] at h; injection h with h; injection h with h
    cases s
    · exact absurd h nd.1.2.2.2
    · exact absurd h nd.1.2.2.1
  | contact q =>
    rw [q] at h; injection h with h; injection h with h
    cases s
    · exact absurd h nd.2.1.2.2
    · exact absurd h nd.2.1.2.1
  | not q _ =>
    rw [q] at h; injection h with h; injection h with h
    cases s
    · exact absurd h nd.2.2.1.2
    · exact absurd h nd.2.2.1.1
  | @grp _ _ t vs s' cs q ht p =>
    rw [q] at h; injection h with h; injection h with h1 h2 h3
    have e : s' = s := by
      cases s <;> cases s'
      · rfl
      · exact absurd h1 nd.2.2.2.1
      · exact absurd h1.symm nd.2.2.2.1
      · rfl
    subst e
    exact ⟨t, vs, cs, rfl, h3.symm, ht, p⟩
theorem sum_cast : ∀ l : List Cond, (l.map fun c => (c.size : Int)).sum = (((l.map Cond.size).sum : Nat) : Int)
  | [] => rfl
  | c :: l => by
    rw [List.map_cons, List.sum_cons, sum_cast l, List.map_cons, List.sum_cons]
    omega
/-! ### inner -/
def spInner (cl : Cl) (C : Addr) : Sp := fun vs H Q _ => ∃ (a dx : Addr) (fs : List (Str × V)) (c : Cond), vs = [.ref a] ∧ H a = some (.ins C dx fs) ∧ IsP cl H (.ref a) c ∧
  ∀ (H' : Hp) (t : Addr) (ws : List V), Same H H' → H' t = some (.tup ws) → IsPs cl H' ws c.kids → Q (.ref t) H'
theorem ok_inner0 (T : TParts K mg cl) {C : Addr} (hC : C = cl.fx ∨ C = cl.ct) (D : MethAt K C "inner" "Part.inner" s_Part_inner ["self"]) :
    ∃ f fd, Cls K C ∧ Meth K C "inner" f ∧ Binds K fd ["self"] [] ∧ FnOk P w K mg base CX0 1 f fd ["self"] (spInner cl C) := by
  refine methAt_ok (T.cls (by rcases hC with rfl | rfl; exact .inl rfl; exact .inr (.inl rfl))) D sc_Part_inner (fun vs H Q E h => ?_) (fun f cdv A outer s H vs Q E hr h => ?_)
  · obtain ⟨a, dx, fs, c, rfl, _⟩ := h; rfl
  · obtain ⟨a, dx, fs, c, rfl, ha, p, k⟩ := h
    refine ⟨_, (pss_one (ps_ret (pe_tup pa_nil))), ?_⟩
    refine ⟨Nat.zero_le _, fun q nq => k _ q [] (Same.new nq) upd_same ?_⟩
    have e : c.kids = [] := by
      rcases hC with rfl | rfl
      · obtain ⟨b, rfl, _⟩ := inv_fx T.nd ha p; rfl
      · obtain ⟨b, rfl, _⟩ := inv_ct T.nd ha p; rfl
    rw [e]
    exact .nil
theorem ok_inner1 (T : TParts K mg cl) (D : MethAt K cl.tn "inner" "Turned.inner" s_Turned_inner ["self"]) :
    ∃ f fd, Cls K cl.tn ∧ Meth K cl.tn "inner" f ∧ Binds K fd ["self"] [] ∧ FnOk P w K mg base CX0 1 f fd ["self"] (spInner cl cl.tn) := by
  refine methAt_ok T.c_Turned.cl D sc_Turned_inner (fun vs H Q E h => ?_) (fun f cdv A outer s H vs Q E hr h => ?_)
  · obtain ⟨a, dx, fs, c, rfl, _⟩ := h; rfl
  · obtain ⟨a, dx, fs, c, rfl, ha, p, k⟩ := h
    obtain ⟨v, c', rfl, rfl, p'⟩ := inv_tn T.nd ha p
    refine ⟨_, (pss_one (ps_ret (pe_tup (pa_cons (pe_fld (pv 0) rfl) pa_nil)))), ?_⟩
    refine ⟨_, rfl, a, _, dx, _, v, rfl, ha, T.c_Turned.cl, T.np_tn, lk1s, line_ge (by simp), fun q nq => ?_⟩
    exact k _ q [v] (Same.new nq) upd_same (.cons (p'.mono (Imm.new nq)) .nil)
theorem ok_inner2 (T : TParts K mg cl) (s : Bool) (D : MethAt K (cl.gr s) "inner" "Group.inner" s_Group_inner ["self"]) :
    ∃ f fd, Cls K (cl.gr s) ∧ Meth K (cl.gr s) "inner" f ∧ Binds K fd ["self"] [] ∧ FnOk P w K mg base CX0 1 f fd ["self"] (spInner cl (cl.gr s)) := by
  refine methAt_ok (T.cls (cl.has_gr s)) D sc_Group_inner (fun vs H Q E h => ?_) (fun f cdv A outer st H vs Q E hr h => ?_)
  · obtain ⟨a, dx, fs, c, rfl, _⟩ := h; rfl
  · obtain ⟨a, dx, fs, c, rfl, ha, p, k⟩ := h
    obtain ⟨t, ws, cs, rfl, rfl, ht, p'⟩ := inv_gr T.nd rfl ha p
    refine ⟨_, (pss_one (ps_ret (pe_fld (pv 0) rfl))), ?_⟩
    refine ⟨_, rfl, a, _, dx, _, _, rfl, ha, T.cls (cl.has_gr s), T.np s, lk1s, ?_⟩
    exact k H t ws (Same.refl _) ht p'
theorem disp_inner (T : TParts K mg cl) : DispAt P w K mg base CX0 cl.has "inner" 1 ["self"] (spInner cl) := by
  refine ⟨fun C hC => ?_⟩
  rcases hC with rfl | rfl | rfl | rfl | rfl
  · exact ok_inner0 T (.inl rfl) T.m_inner_fx
  · exact ok_inner0 T (.inr rfl) T.m_inner_ct
  · exact ok_inner1 T T.m_inner_tn
  · exact ok_inner2 T true T.m_inner_sr
  · exact ok_inner2 T false T.m_inner_br
/-! ### size -/
def spSize (cl : Cl) (n : Nat) (C : Addr) : Sp := fun vs H Q _ => ∃ (a dx : Addr) (fs : List (Str × V)) (c : Cond), vs = [.ref a] ∧ H a = some (.ins C dx fs) ∧ IsP cl H (.ref a) c ∧ c.depth ≤ n ∧ c.size ≤ 1000 ∧
  ∀ (H' : Hp), Same H H' → Q (.int c.size) H'
theorem ok_size (T : TParts K mg cl) {n k : Nat} (G_size : DispAt P w K mg base CX0 cl.has "size" k ["self"] (spSize cl n)) (hk : 1 ≤ k) {C : Addr} (hC : cl.has C) (D : MethAt K C "size" "Part.size" s_Part_size ["self"]) :
    ∃ f fd, Cls K C ∧ Meth K C "size" f ∧ Binds K fd ["self"] [] ∧ FnOk P w K mg base CX0 (k + 1) f fd ["self"] (spSize cl (n + 1) C) := by
  have G_inner : DispAt P w K mg base CX0 cl.has "inner" 1 ["self"] (spInner cl) := disp_inner T
  refine methAt_ok (T.cls hC) D sc_Part_size (fun vs H Q E h => ?_) (fun f cdv A outer s H vs Q E hr h => ?_)
  · obtain ⟨a, dx, fs, c, rfl, _⟩ := h; rfl
  · obtain ⟨a, dx, fs, c, rfl, ha, p, hd, hz, q⟩ := h
    refine ⟨_, (pss_one (ps_ret (pe_op op_add pe_int (pe_callB (cr_sum rfl) (by rfl) T.z_sum (by decide +kernel) (pa_cons (pe_lc (own := [("part", 1)]) (g := gName 1) (tt := tYes) rfl sc_Part_size.nd (pi_tup (pe_methD0 G_inner hr pass0 (pv 0) hk)) (blkOk_by (own := [("part", 1)]) (N := ["self", "part"]) (sc := defScope s_Part_size) (by decide +kernel)) (fun _ _ _ _ _ => pg_name (i := 1) sc_Part_size.nd rfl (Or.inl rfl)) (fun _ _ _ _ _ => pts_nil) (fun _ _ _ _ _ => (pe_methD0 G_size hr pass0 (pv 1) (Nat.le_refl _)))) pa_nil))))), ?_⟩
    refine ⟨_, rfl, a, C, dx, fs, rfl, ha, hC, look_of (by decide +kernel) ha p, a, dx, fs, c, rfl, ha, p, fun H1 t ws s1 ht ps => ?_⟩
    have hlen := ps.length
    have hz2 : c.kids.length ≤ 1000 := by
      have h1 := Cond.len_sizes c.kids
      have h2 := c.size_kids
      omega
    refine ⟨t, rfl, ⟨_, SqT.of ht⟩, fun D nD => lc_tup (K := K) (a := t) (xs := ws) (fun i H' => Same H1 H' ∧ H' D = some (.lst ((c.kids.map fun c => V.int c.size).take i)))
      ⟨Same.new nD, upd_same⟩ (fun i H' _ q => SqT.of (q.1 _ _ ht)) ?_ ?_⟩
    · rintro i y H2 hy ⟨q1, q2⟩
      obtain ⟨c', hc', p'⟩ := (ps.mono (Same.imm q1)).at hy
      obtain ⟨a', C', dx', fs', rfl, ha', hC', hl'⟩ := meth_of (m := "size") (by decide +kernel) p'
      have hm := List.mem_of_getElem? hc'
      have h1 := Cond.depth_mem hm
      have h2 := Cond.size_mem hm
      have h3 := c.depth_kids
      have h4 := c.size_kids
      refine ⟨rfl, _, rfl, a', C', dx', fs', rfl, ha', hC', hl', a', dx', fs', c', rfl, ha', p', by omega, by omega, fun H3 s3 => ?_⟩
      exact lc_push (q1.trans s3) nD (s3 _ _ q2) (by rw [List.getElem?_map, hc']; rfl) (by rw [List.length_map]; omega)
    · rintro H2 ⟨q1, q2⟩
      rw [hlen, List.take_of_length_le (by simp)] at q2
      refine ⟨D, c.kids.map fun c => (c.size : Int), rfl, SqL.of ?_, _, _, rfl, rfl, ?_⟩
      · rw [q2, List.map_map]
        rfl
      · have e : (1 : Int) + (c.kids.map fun c => (c.size : Int)).sum = (c.size : Int) := by
          rw [sum_cast, Cond.size_kids, Cond.sizes_sum]
          omega
        show Q (V.int (1 + _)) _
        rw [e]
        exact q _ (s1.trans q1)
theorem disp_size (T : TParts K mg cl) : ∀ n : Nat, DispAt P w K mg base CX0 cl.has "size" (n + 1) ["self"] (spSize cl n)
  | 0 => by
    refine ⟨fun C hC => ?_⟩
    obtain ⟨f, fd, h1, h2, h3, h4⟩ := (disp_inner (P := P) (w := w) (base := base) T).ex C hC
    have D : MethAt K C "size" "Part.size" s_Part_size ["self"] := by
      rcases hC with rfl | rfl | rfl | rfl | rfl
      · exact T.m_size_fx
      · exact T.m_size_ct
      · exact T.m_size_tn
      · exact T.m_size_sr
      · exact T.m_size_br
    refine methAt_ok (T.cls hC) D sc_Part_size (fun vs H Q E h => ?_) (fun f cdv A outer s H vs Q E hr h => ?_)
    · obtain ⟨a, dx, fs, c, rfl, _⟩ := h; rfl
    · obtain ⟨a, dx, fs, c, rfl, ha, p, hd, _⟩ := h
      exact absurd c.depth_pos (by omega)
  | n + 1 => by
    refine ⟨fun C hC => ?_⟩
    have D : MethAt K C "size" "Part.size" s_Part_size ["self"] := by
      rcases hC with rfl | rfl | rfl | rfl | rfl
      · exact T.m_size_fx
      · exact T.m_size_ct
      · exact T.m_size_tn
      · exact T.m_size_sr
      · exact T.m_size_br
    exact ok_size T (disp_size T n) (by omega) hC D
/-! ### depth -/
def spDepth (cl : Cl) (n : Nat) (C : Addr) : Sp := fun vs H Q _ => ∃ (a dx : Addr) (fs : List (Str × V)) (c : Cond), vs = [.ref a] ∧ H a = some (.ins C dx fs) ∧ IsP cl H (.ref a) c ∧ c.depth ≤ n ∧ c.size ≤ 1000 ∧
  ∀ (H' : Hp), Same H H' → Q (.int c.depth) H'
theorem max_depths : ∀ (cs : List Cond) (m : Int), m ∈ (0 : Int) :: cs.map (fun c => (c.depth : Int)) → (∀ y, y ∈ (0 : Int) :: cs.map (fun c => (c.depth : Int)) → y ≤ m) → m = (Cond.depths cs : Int) := by
  have le : ∀ (cs : List Cond), ∃ y, y ∈ (0 : Int) :: cs.map (fun c => (c.depth : Int)) ∧ (Cond.depths cs : Int) ≤ y := by
    intro cs
    induction cs with
    | nil => exact ⟨0, List.mem_cons_self, by simp [Cond.depths]⟩
    | cons c cs ih =>
      obtain ⟨y, hy, hl⟩ := ih
      by_cases h : Cond.depths cs ≤ c.depth
      · exact ⟨c.depth, by simp, by rw [Cond.depths]; omega⟩
      · refine ⟨y, ?_, by rw [Cond.depths]; omega⟩
        rcases List.mem_cons.mp hy with rfl | hy
        · exact List.mem_cons_self
        · exact List.mem_cons_of_mem _ (List.mem_cons_of_mem _ hy)
  intro cs m hm hle
  obtain ⟨y, hy, hl⟩ := le cs
  have h1 := hle y hy
  have h2 : m ≤ (Cond.depths cs : Int) := by
    rcases List.mem_cons.mp hm with rfl | hm
    · omega
    · obtain ⟨c, hc, rfl⟩ := List.mem_map.mp hm
      have := Cond.depth_mem hc
      omega
  omega
theorem ok_depth (T : TParts K mg cl) {n k : Nat} (G_depth : DispAt P w K mg base CX0 cl.has "depth" k ["self"] (spDepth cl n)) (hk : 1 ≤ k) {C : Addr} (hC : cl.has C) (D : MethAt K C "depth" "Part.depth" s_Part_depth ["self"]) :
    ∃ f fd, Cls K C ∧ Meth K C "depth" f ∧ Binds K fd ["self"] [] ∧ FnOk P w K mg base CX0 (k + 1) f fd ["self"] (spDepth cl (n + 1) C) := by
  have G_inner : DispAt P w K mg base CX0 cl.has "inner" 1 ["self"] (spInner cl) := disp_inner T
  refine methAt_ok (T.cls hC) D sc_Part_depth (fun vs H Q E h => ?_) (fun f cdv A outer s H vs Q E hr h => ?_)
  · obtain ⟨a, dx, fs, c, rfl, _⟩ := h; rfl
  · obtain ⟨a, dx, fs, c, rfl, ha, p, hd, hz, q⟩ := h
    refine ⟨_, (pss_one (ps_ret (pe_op op_add pe_int (pe_callB (cr_max rfl) (by rfl) T.z_max (by decide +kernel) (pa_cons (pe_op op_cat (pe_lst (pa_cons pe_int pa_nil)) (pe_lc (own := [("part", 1)]) (g := gName 1) (tt := tYes) rfl sc_Part_depth.nd (pi_tup (pe_methD0 G_inner hr pass0 (pv 0) hk)) (blkOk_by (own := [("part", 1)]) (N := ["self", "part"]) (sc := defScope s_Part_depth) (by decide +kernel)) (fun _ _ _ _ _ => pg_name (i := 1) sc_Part_depth.nd rfl (Or.inl rfl)) (fun _ _ _ _ _ => pts_nil) (fun _ _ _ _ _ => (pe_methD0 G_depth hr pass0 (pv 1) (Nat.le_refl _))))) pa_nil))))), ?_⟩
    have hz2 : c.kids.length ≤ 1000 := by
      have h1 := Cond.len_sizes c.kids
      have h2 := c.size_kids
      omega
    refine ⟨line_ge (by decide), fun z nz => ?_⟩
    have ha0 : upd H z (.lst [.int 0]) a = some (.ins C dx fs) := Same.new nz _ _ ha
    have p0 : IsP cl (upd H z (.lst [.int 0])) (.ref a) c := p.mono (Imm.new nz)
    refine ⟨_, rfl, a, C, dx, fs, rfl, ha0, hC, look_of (by decide +kernel) ha p, a, dx, fs, c, rfl, ha0, p0, fun H1 t ws s1 ht ps => ?_⟩
    have hlen := ps.length
    refine ⟨t, rfl, ⟨_, SqT.of ht⟩, fun D nD => lc_tup (K := K) (a := t) (xs := ws) (fun i H' => Same H1 H' ∧ H' D = some (.lst ((c.kids.map fun c => V.int c.depth).take i)))
      ⟨Same.new nD, upd_same⟩ (fun i H' _ q => SqT.of (q.1 _ _ ht)) ?_ ?_⟩
    · rintro i y H2 hy ⟨q1, q2⟩
      obtain ⟨c', hc', p'⟩ := (ps.mono (Same.imm q1)).at hy
      obtain ⟨a', C', dx', fs', rfl, ha', hC', hl'⟩ := meth_of (m := "depth") (by decide +kernel) p'
      have hm := List.mem_of_getElem? hc'
      have h1 := Cond.depth_mem hm
      have h2 := Cond.size_mem hm
      have h3 := c.depth_kids
      have h4 := c.size_kids
      refine ⟨rfl, _, rfl, a', C', dx', fs', rfl, ha', hC', hl', a', dx', fs', c', rfl, ha', p', by omega, by omega, fun H3 s3 => ?_⟩
      exact lc_push (q1.trans s3) nD (s3 _ _ q2) (by rw [List.getElem?_map, hc']; rfl) (by rw [List.length_map]; omega)
    · rintro H2 ⟨q1, q2⟩
      rw [hlen, List.take_of_length_le (by simp)] at q2
      refine ⟨z, D, [.int 0], _, rfl, rfl, q1 _ _ (s1 _ _ upd_same), q2, line_ge (by simp; omega), fun y ny => ?_⟩
      refine ⟨y, (0 : Int) :: c.kids.map (fun c => (c.depth : Int)), rfl, SqL.of ?_, by simp, fun m hm hle => ?_⟩
      · rw [upd_same]
        simp [List.map_map, Function.comp_def]
      · have e := max_depths c.kids m hm hle
        refine ⟨_, _, rfl, rfl, ?_⟩
        have e2 : (1 : Int) + m = (c.depth : Int) := by
          rw [e, Cond.depth_kids]
          omega
        show Q (V.int (1 + m)) _
        rw [e2]
        exact q _ (((Same.new nz).trans (s1.trans q1)).trans (Same.new ny))
theorem disp_depth (T : TParts K mg cl) : ∀ n : Nat, DispAt P w K mg base CX0 cl.has "depth" (n + 1) ["self"] (spDepth cl n)
  | 0 => by
    refine ⟨fun C hC => ?_⟩
    have D : MethAt K C "depth" "Part.depth" s_Part_depth ["self"] := by
      rcases hC with rfl | rfl | rfl | rfl | rfl
      · exact T.m_depth_fx
      · exact T.m_depth_ct
      · exact T.m_depth_tn
      · exact T.m_depth_sr
      · exact T.m_depth_br
    refine methAt_ok (T.cls hC) D sc_Part_depth (fun vs H Q E h => ?_) (fun f cdv A outer s H vs Q E hr h => ?_)
    · obtain ⟨a, dx, fs, c, rfl, _⟩ := h; rfl
    · obtain ⟨a, dx, fs, c, rfl, ha, p, hd, _⟩ := h
      exact absurd c.depth_pos (by omega)
  | n + 1 => by
    refine ⟨fun C hC => ?_⟩
    have D : MethAt K C "depth" "Part.depth" s_Part_depth ["self"] := by
      rcases hC with rfl | rfl | rfl | rfl | rfl
      · exact T.m_depth_fx
      · exact T.m_depth_ct
      · exact T.m_depth_tn
      · exact T.m_depth_sr
      · exact T.m_depth_br
    exact ok_depth T (disp_depth T n) (by omega) hC D
/-! ### bounded: what is within the limits is let by -/
def spBounded (cl : Cl) (C : Addr) : Sp := fun vs H Q _ => ∃ (a dx : Addr) (fs : List (Str × V)) (c : Cond), vs = [.ref a] ∧ H a = some (.ins C dx fs) ∧ IsP cl H (.ref a) c ∧ c.depth ≤ 20 ∧ c.size ≤ 60 ∧
  ∀ (H' : Hp), Same H H' → Q .non H'
theorem disp_bounded (T : TParts K mg cl) : DispAt P w K mg base CX0 (fun C => C = cl.tn ∨ C = cl.sr ∨ C = cl.br) "bounded" 22 ["self"] (spBounded cl) := by
  have G_size : DispAt P w K mg base CX0 cl.has "size" 21 ["self"] (spSize cl 20) := disp_size T 20
  have G_depth : DispAt P w K mg base CX0 cl.has "depth" 21 ["self"] (spDepth cl 20) := disp_depth T 20
  refine ⟨fun C hC => ?_⟩
  have hC' : cl.has C := by
    rcases hC with rfl | rfl | rfl
    · exact .inr (.inr (.inl rfl))
    · exact .inr (.inr (.inr (.inl rfl)))
    · exact .inr (.inr (.inr (.inr rfl)))
  have D : MethAt K C "bounded" "Part.bounded" s_Part_bounded ["self"] := by
    rcases hC with rfl | rfl | rfl
    · exact T.m_bounded_tn
    · exact T.m_bounded_sr
    · exact T.m_bounded_br
  refine methAt_ok (T.cls hC') D sc_Part_bounded (fun vs H Q E h => ?_) (fun f cdv A outer s H vs Q E hr h => ?_)
  · obtain ⟨a, dx, fs, c, rfl, _⟩ := h; rfl
  · obtain ⟨a, dx, fs, c, rfl, ha, p, hd, hz, q⟩ := h
    refine ⟨_, (pss_one (ps_if (PW.pt (pw_or (pt_cmpR op_gt (pe_methD0 G_size hr pass0 (pv 0)) (pe_gc T.g_MOST_SIZE) (nomark _)) (pw_or1 (pt_cmpR op_gt (pe_methD0 G_depth hr pass0 (pv 0)) (pe_gc T.g_MOST_DEEP) (nomark _))))) (pss_one ps_never) pss_nil)), ?_⟩
    refine ⟨_, rfl, a, C, dx, fs, rfl, ha, hC', look_of (by decide +kernel) ha p, a, dx, fs, c, rfl, ha, p, hd, by omega, fun H1 s1 => ?_⟩
    refine ⟨_, _, rfl, rfl, _, rfl, ?_⟩
    rw [decide_eq_false (show ¬ (60 : Int) < (c.size : Int) by omega)]
    have ha1 := s1 _ _ ha
    have p1 := p.mono (Same.imm (T := cl.has) s1)
    refine iteF ⟨_, rfl, a, C, dx, fs, rfl, ha1, hC', look_of (by decide +kernel) ha p, a, dx, fs, c, rfl, ha1, p1, hd, by omega, fun H2 s2 => ?_⟩
    refine ⟨_, _, rfl, rfl, _, rfl, ?_⟩
    rw [decide_eq_false (show ¬ (20 : Int) < (c.depth : Int) by omega)]
    exact iteF (q _ (s1.trans s2))
end

--%% M2
/-! ## gather, contacts -/
abbrev s_Part_gather : Stmt := inClass (top 22) 6
theorem sc_Part_gather : FnScope ["self", "found", "part"] ["self", "found"] (defScope s_Part_gather) := ⟨rfl, rfl, rfl, by decide +kernel, rfl, by decide +kernel, by decide +kernel⟩
abbrev s_Contact_gather : Stmt := inClass (top 24) 4
theorem sc_Contact_gather : FnScope ["self", "found"] ["self", "found"] (defScope s_Contact_gather) := ⟨rfl, rfl, rfl, by decide +kernel, rfl, by decide +kernel, by decide +kernel⟩
abbrev s_Part_contacts : Stmt := inClass (top 22) 7
theorem sc_Part_contacts : FnScope ["self", "found"] ["self"] (defScope s_Part_contacts) := ⟨rfl, rfl, rfl, by decide +kernel, rfl, by decide +kernel, by decide +kernel⟩
structure TGather (K : PySem.W.Frag) (mg : Str → Option Value) (cl : Cl) : Prop where
  parts : TParts K mg cl
  m_gather_fx : MethAt K cl.fx "gather" "Part.gather" s_Part_gather ["self", "found"]
  m_gather_ct : MethAt K cl.ct "gather" "Contact.gather" s_Contact_gather ["self", "found"]
  m_gather_tn : MethAt K cl.tn "gather" "Part.gather" s_Part_gather ["self", "found"]
  m_gather_sr : MethAt K cl.sr "gather" "Part.gather" s_Part_gather ["self", "found"]
  m_gather_br : MethAt K cl.br "gather" "Part.gather" s_Part_gather ["self", "found"]
  m_contacts_fx : MethAt K cl.fx "contacts" "Part.contacts" s_Part_contacts ["self"]
  m_contacts_ct : MethAt K cl.ct "contacts" "Part.contacts" s_Part_contacts ["self"]
  m_contacts_tn : MethAt K cl.tn "contacts" "Part.contacts" s_Part_contacts ["self"]
  m_contacts_sr : MethAt K cl.sr "contacts" "Part.contacts" s_Part_contacts ["self"]
  m_contacts_br : MethAt K cl.br "contacts" "Part.contacts" s_Part_contacts ["self"]
  z_tuple : mg "tuple" = none
section
variable {P : Program} {w : World} {K : PySem.W.Frag} {mg : Str → Option Value} {base : Heap} {cl : Cl}
/-! ### gather, contacts -/
def nm (l : List Str) : List (Key × V) := l.map fun n => (.inr n, .bl true)
theorem nm_any (n : Str) : ∀ l : List Str, ((nm l).any fun kv => decide (kv.1 = (Sum.inr n : Key))) = decide (n ∈ l)
  | [] => by simp [nm]
  | x :: l => by
    have ih := nm_any n l
    unfold nm at ih ⊢
    rw [List.map_cons, List.any_cons, ih, Bool.eq_iff_iff]
    simp only [Bool.or_eq_true, decide_eq_true_eq, List.mem_cons]
    constructor
    · rintro (h | h)
      · injection h with h
        exact .inl h.symm
      · exact .inr h
    · rintro (rfl | h)
      · exact .inl rfl
      · exact .inr h
theorem nm_put (l : List Str) (n : Str) : putK (nm l) (Sum.inr n : Key) (.bl true) = nm (addN l n) := by
  unfold putK addN
  rw [nm_any]
  by_cases h : n ∈ l
  · rw [decide_eq_true h, if_pos rfl, if_pos h]
    unfold nm
    rw [List.map_map]
    apply List.map_congr_left
    intro x _
    simp only [Function.comp]
    split <;> rfl
  · rw [decide_eq_false h, if_neg (by decide), if_neg h]
    simp [nm]
theorem addN_len (l : List Str) (n : Str) : (addN l n).length ≤ l.length + 1 := by
  unfold addN
  split <;> simp
mutual
theorem gather_len : ∀ (c : Cond) (l : List Str), (c.gather l).length ≤ l.length + c.size
  | .fixed _, l => by simp [Cond.gather]
  | .contact n, l => by
    have := addN_len l n
    simp [Cond.gather, Cond.size]
    omega
  | .not c, l => by
    have := gather_len c l
    simp [Cond.gather, Cond.size]
    omega
  | .grp _ cs, l => by
    have := gathers_len cs l
    simp [Cond.gather, Cond.size]
    omega
theorem gathers_len : ∀ (cs : List Cond) (l : List Str), (Cond.gathers l cs).length ≤ l.length + Cond.sizes cs
  | [], l => by simp [Cond.gathers]
  | c :: cs, l => by
    have h1 := gather_len c l
    have h2 := gathers_len cs (c.gather l)
    simp [Cond.gathers, Cond.sizes]
    omega
end
theorem gathers_take (l : List Str) (cs : List Cond) {i : Nat} {c : Cond} (h : cs[i]? = some c) : Cond.gathers l (cs.take (i + 1)) = c.gather (Cond.gathers l (cs.take i)) := by
  rw [Cond.gathers_fold, Cond.gathers_fold, List.take_succ, h, List.foldl_append]
  rfl
theorem sizes_take : ∀ (cs : List Cond) (i : Nat) {c : Cond}, cs[i]? = some c → Cond.sizes (cs.take i) + c.size ≤ Cond.sizes cs
  | [], i, c, h => by simp at h
  | x :: cs, 0, c, h => by
    simp at h
    subst h
    simp [Cond.sizes]
  | x :: cs, i + 1, c, h => by
    have := sizes_take cs i (c := c) (by simpa using h)
    simp [Cond.sizes]
    omega
def spGather (cl : Cl) (n : Nat) (C : Addr) : Sp := fun vs H Q _ => ∃ (a dx d : Addr) (fs : List (Str × V)) (c : Cond) (l : List Str), vs = [.ref a, .ref d] ∧ H a = some (.ins C dx fs) ∧ IsP cl H (.ref a) c ∧ c.depth ≤ n ∧ H d = some (.dK (nm l)) ∧ l.length + c.size ≤ 1000 ∧
  ∀ (H' : Hp), But d H H' → H' d = some (.dK (nm (c.gather l))) → Q .non H'
theorem ok_gather (T : TGather K mg cl) {n k : Nat} (G_gather : DispAt P w K mg base CX0 cl.has "gather" k ["self", "found"] (spGather cl n)) (hk : 1 ≤ k) {C : Addr} (hC : cl.has C) (hct : C ≠ cl.ct) (D : MethAt K C "gather" "Part.gather" s_Part_gather ["self", "found"]) :
    ∃ f fd, Cls K C ∧ Meth K C "gather" f ∧ Binds K fd ["self", "found"] [] ∧ FnOk P w K mg base CX0 (k + 1) f fd ["self", "found"] (spGather cl (n + 1) C) := by
  have G_inner : DispAt P w K mg base CX0 cl.has "inner" 1 ["self"] (spInner cl) := disp_inner T.parts
  refine methAt_ok (T.parts.cls hC) D sc_Part_gather (fun vs H Q E h => ?_) (fun f cdv A outer s H vs Q E hr h => ?_)
  · obtain ⟨a, dx, d, fs, c, l, rfl, _⟩ := h; rfl
  · obtain ⟨a, dx, d, fs, c, l, rfl, ha, p, hd, hD, hz, q⟩ := h
    refine ⟨_, (pss_one (ps_for PassesOwn.never rfl (pi_tup (pe_methD0 G_inner hr pass0 (pv 0) hk)) (pg_name (i := 2) sc_Part_gather.nd rfl (by first | exact Or.inl rfl | exact Or.inr rfl)) (pss_one (ps_expr (pe_methD G_gather hr pass0 (pv 2) (pa_cons (pv 1) pa_nil) (Nat.le_refl _)))))), ?_⟩
    refine ⟨_, rfl, a, C, dx, fs, rfl, ha, hC, look_of (by decide +kernel) ha p, a, dx, fs, c, rfl, ha, p, fun H1 t ws s1 ht ps => ?_⟩
    have hlen := ps.length
    refine ⟨t, rfl, ⟨_, SqT.of ht⟩, for_tup (K := K) (a := t) (xs := ws) (fun i σ H' => ∃ v, σ = [some (.ref a), some (.ref d), v] ∧ But d H1 H' ∧ H' d = some (.dK (nm (Cond.gathers l (c.kids.take i)))))
      ⟨none, rfl, Same.but (Same.refl _), s1 _ _ hD⟩ (fun i σ H' _ ⟨_, _, b1, _⟩ => SqT.of (b1 _ _ ht (ne_of ht (s1 _ _ hD) (by intro z; cases z)))) ?_ ?_⟩
    · rintro i y σ H2 hy ⟨v, rfl, b1, q2⟩
      obtain ⟨c', hc', p'⟩ := (ps.mono (b1.imm (s1 _ _ hD) id)).at hy
      obtain ⟨a', C', dx', fs', rfl, ha', hC', hl'⟩ := meth_of (m := "gather") (by decide +kernel) p'
      have hm := List.mem_of_getElem? hc'
      have h1 := Cond.depth_mem hm
      have h3 := c.depth_kids
      have h4 := c.size_kids
      have h5 := gathers_len (c.kids.take i) l
      have h6 := sizes_take c.kids i hc'
      refine ⟨_, rfl, a', C', dx', fs', rfl, ha', hC', hl', _, rfl, a', dx', d, fs', c', Cond.gathers l (c.kids.take i), rfl, ha', p', by omega, q2, by omega, fun H3 b3 q3 => ?_⟩
      refine ⟨_, rfl, b1.trans b3, ?_⟩
      rw [gathers_take l c.kids hc']
      exact q3
    · rintro σ H2 ⟨v, rfl, b1, q2⟩
      rw [hlen, List.take_of_length_le (Nat.le_refl _)] at q2
      refine q _ (But.trans (Same.but s1) b1) ?_
      rw [q2]
      cases c with
      | contact n =>
        exfalso
        obtain ⟨a', C', dx', f', x', e, h, hc, hf⟩ := p.obj
        cases p with
        | contact h => rw [ha] at h; cases h; exact hct rfl
      | fixed b => rfl
      | not c => simp [Cond.kids, Cond.gathers, Cond.gather]
      | grp s cs => rfl
theorem ok_gather_ct (T : TGather K mg cl) (n : Nat) {k : Nat} (hk : 1 ≤ k) (D : MethAt K cl.ct "gather" "Contact.gather" s_Contact_gather ["self", "found"]) :
    ∃ f fd, Cls K cl.ct ∧ Meth K cl.ct "gather" f ∧ Binds K fd ["self", "found"] [] ∧ FnOk P w K mg base CX0 k f fd ["self", "found"] (spGather cl n cl.ct) := by
  have h : ∃ f fd, Cls K cl.ct ∧ Meth K cl.ct "gather" f ∧ Binds K fd ["self", "found"] [] ∧ FnOk P w K mg base CX0 1 f fd ["self", "found"] (spGather cl n cl.ct) := by
    refine methAt_ok T.parts.c_Contact.cl D sc_Contact_gather (fun vs H Q E h => ?_) (fun f cdv A outer s H vs Q E hr h => ?_)
    · obtain ⟨a, dx, d, fs, c, l, rfl, _⟩ := h; rfl
    · obtain ⟨a, dx, d, fs, c, l, rfl, ha, p, hd, hD, hz, q⟩ := h
      have hu := hu_of hr
      obtain ⟨m, rfl, rfl⟩ := inv_ct T.parts.nd ha p
      refine ⟨_, (pss_one (ps_dput hu (pv 1) (pe_fld (pv 0) rfl) pe_bl rfl)), ?_⟩
      refine ⟨_, rfl, _, rfl, a, _, dx, _, _, rfl, ha, T.parts.c_Contact.cl, T.parts.nn_ct, lk1s, d, _, rfl, DPut.k (k := Sum.inr m) hD ?_, ?_⟩
      · unfold nm
        rw [List.length_map]
        exact small1000 (by omega)
      · rw [nm_put]
        exact q _ But.upd upd_same
  obtain ⟨f, fd, h1, h2, h3, h4⟩ := h
  exact ⟨f, fd, h1, h2, h3, h4.mono hk⟩
theorem disp_gather (T : TGather K mg cl) : ∀ n : Nat, DispAt P w K mg base CX0 cl.has "gather" (n + 1) ["self", "found"] (spGather cl n) := by
  have nd := T.parts.nd
  simp only [List.nodup_cons, List.mem_cons, List.not_mem_nil, or_false, not_or] at nd
  have each : ∀ C, cl.has C → C ≠ cl.ct → MethAt K C "gather" "Part.gather" s_Part_gather ["self", "found"] := by
    intro C hC hct
    rcases hC with rfl | rfl | rfl | rfl | rfl
    · exact T.m_gather_fx
    · exact absurd rfl hct
    · exact T.m_gather_tn
    · exact T.m_gather_sr
    · exact T.m_gather_br
  intro n
  induction n with
  | zero =>
    refine ⟨fun C hC => ?_⟩
    by_cases hct : C = cl.ct
    · subst hct
      exact ok_gather_ct T 0 (Nat.le_refl _) T.m_gather_ct
    · refine methAt_ok (T.parts.cls hC) (each C hC hct) sc_Part_gather (fun vs H Q E h => ?_) (fun f cdv A outer s H vs Q E hr h => ?_)
      · obtain ⟨a, dx, d, fs, c, l, rfl, _⟩ := h; rfl
      · obtain ⟨a, dx, d, fs, c, l, rfl, ha, p, hd, _⟩ := h
        exact absurd c.depth_pos (by omega)
  | succ n ih =>
    refine ⟨fun C hC => ?_⟩
    by_cases hct : C = cl.ct
    · subst hct
      exact ok_gather_ct T _ (by omega) T.m_gather_ct
    · exact ok_gather T ih (by omega) hC hct (each C hC hct)
def spContacts (cl : Cl) (n : Nat) (C : Addr) : Sp := fun vs H Q _ => ∃ (a dx : Addr) (fs : List (Str × V)) (c : Cond), vs = [.ref a] ∧ H a = some (.ins C dx fs) ∧ IsP cl H (.ref a) c ∧ c.depth ≤ n ∧ c.size ≤ 1000 ∧
  ∀ (H' : Hp) (t : Addr), Same H H' → H' t = some (.tup (c.contacts.map V.str)) → H t = none → Q (.ref t) H'
theorem disp_contacts (T : TGather K mg cl) (n : Nat) : DispAt P w K mg base CX0 cl.has "contacts" (n + 2) ["self"] (spContacts cl n) := by
  have G_gather : DispAt P w K mg base CX0 cl.has "gather" (n + 1) ["self", "found"] (spGather cl n) := disp_gather T n
  refine ⟨fun C hC => ?_⟩
  have D : MethAt K C "contacts" "Part.contacts" s_Part_contacts ["self"] := by
    rcases hC with rfl | rfl | rfl | rfl | rfl
    · exact T.m_contacts_fx
    · exact T.m_contacts_ct
    · exact T.m_contacts_tn
    · exact T.m_contacts_sr
    · exact T.m_contacts_br
  refine methAt_ok (T.parts.cls hC) D sc_Part_contacts (fun vs H Q E h => ?_) (fun f cdv A outer s H vs Q E hr h => ?_)
  · obtain ⟨a, dx, fs, c, rfl, _⟩ := h; rfl
  · obtain ⟨a, dx, fs, c, rfl, ha, p, hd, hz, q⟩ := h
    refine ⟨_, (pss_cons (ps_set (i := 1) sc_Part_contacts.nd rfl (by first | exact Or.inl rfl | exact Or.inr rfl) pe_dnewK)
        (pss_cons (ps_expr (pe_methD G_gather hr pass0 (pv 0) (pa_cons (pv 1) pa_nil) (Nat.le_refl _)))
        (pss_one (ps_ret (pe_tupKeys T.z_tuple (pv 1)))))), ?_⟩
    intro d nd
    have ha1 : upd H d (.dK []) a = some (.ins C dx fs) := Same.new nd _ _ ha
    refine ⟨_, rfl, a, C, dx, fs, rfl, ha1, hC, look_of (by decide +kernel) ha p, _, rfl, a, dx, d, fs, c, [], rfl, ha1, p.mono (Imm.new nd), hd, upd_same, by simpa using hz, fun H1 b1 h1 => ?_⟩
    refine ⟨_, rfl, d, _, rfl, h1, fun t nt => ?_⟩
    have s1 : Same H H1 := b1.same (Same.new nd) nd
    refine q _ t (s1.trans (Same.new nt)) ?_ (s1.free nt)
    rw [upd_same]
    unfold nm
    rw [List.map_map]
    rfl
end

--%% M3
/-! ## parts: made -/
abbrev s_Fixed___init__ : Stmt := inClass (top 23) 0
theorem sc_Fixed___init__ : FnScope ["self", "value"] ["self", "value"] (defScope s_Fixed___init__) := ⟨rfl, rfl, rfl, by decide +kernel, rfl, by decide +kernel, by decide +kernel⟩
abbrev s_Contact___init__ : Stmt := inClass (top 24) 0
theorem sc_Contact___init__ : FnScope ["self", "name"] ["self", "name"] (defScope s_Contact___init__) := ⟨rfl, rfl, rfl, by decide +kernel, rfl, by decide +kernel, by decide +kernel⟩
abbrev s_Turned___init__ : Stmt := inClass (top 25) 0
theorem sc_Turned___init__ : FnScope ["self", "part"] ["self", "part"] (defScope s_Turned___init__) := ⟨rfl, rfl, rfl, by decide +kernel, rfl, by decide +kernel, by decide +kernel⟩
abbrev s_Group___init__ : Stmt := inClass (top 26) 0
theorem sc_Group___init__ : FnScope ["self", "parts"] ["self", "parts"] (defScope s_Group___init__) := ⟨rfl, rfl, rfl, by decide +kernel, rfl, by decide +kernel, by decide +kernel⟩
structure TMake (K : PySem.W.Frag) (mg : Str → Option Value) (cl : Cl) : Prop where
  names : TNames K mg
  parts : TParts K mg cl
  i_fx : MethAt K cl.fx "__init__" "Fixed.__init__" s_Fixed___init__ ["self", "value"]
  i_ct : MethAt K cl.ct "__init__" "Contact.__init__" s_Contact___init__ ["self", "name"]
  i_tn : MethAt K cl.tn "__init__" "Turned.__init__" s_Turned___init__ ["self", "part"]
  i_sr : MethAt K cl.sr "__init__" "Group.__init__" s_Group___init__ ["self", "parts"]
  i_br : MethAt K cl.br "__init__" "Group.__init__" s_Group___init__ ["self", "parts"]
  z_len : mg "len" = none
  z_tuple : mg "tuple" = none
section
variable {P : Program} {w : World} {K : PySem.W.Frag} {mg : Str → Option Value} {base : Heap} {cl : Cl}
/-- a new instance and its dict: what was tracked stays -/
theorem same_make {H : Hp} {x dx C : Addr} {fs : List (Str × V)} (nx : H x = none) (nd : H dx = none) : Same H (upd (upd H dx (.own x)) x (.ins C dx fs)) := fun b o e => by
  rw [upd_ne (ne_of_none e nx), upd_ne (ne_of_none e nd)]
  exact e
def spInitFx (cl : Cl) : Sp := fun vs H Q _ => ∃ (x dx : Addr) (b : Bool), vs = [.ref x, .bl b] ∧ H x = some (.ins cl.fx dx []) ∧ ∀ H' : Hp, H' x = some (.ins cl.fx dx [("value", .bl b)]) → But x H H' → Q .non H'
def spInitCt (cl : Cl) : Sp := fun vs H Q _ => ∃ (x dx : Addr) (n : Str), vs = [.ref x, .str n] ∧ H x = some (.ins cl.ct dx []) ∧ n.length ≤ sizeLine ∧ isName n = true ∧ ∀ H' : Hp, H' x = some (.ins cl.ct dx [("name", .str n)]) → But x H H' → Q .non H'
def spInitTn (cl : Cl) : Sp := fun vs H Q _ => ∃ (H0 : Hp) (x dx : Addr) (v : V) (c : Cond), vs = [.ref x, v] ∧ H x = some (.ins cl.tn dx []) ∧ Same H0 H ∧ H0 x = none ∧ IsP cl H0 v c ∧ c.size ≤ 59 ∧ c.depth ≤ 19 ∧
  ∀ H' : Hp, Same H0 H' → IsP cl H' (.ref x) (.not c) → Q .non H'
def spInitGr (cl : Cl) (s : Bool) : Sp := fun vs H Q _ => ∃ (H0 : Hp) (x dx l : Addr) (ws : List V) (cs : List Cond), vs = [.ref x, .ref l] ∧ H x = some (.ins (cl.gr s) dx []) ∧ Same H0 H ∧ H0 x = none ∧ H0 l = some (.lst ws) ∧ IsPs cl H0 ws cs ∧ 2 ≤ cs.length ∧ Cond.sizes cs ≤ 59 ∧ Cond.depths cs ≤ 19 ∧
  ∀ H' : Hp, Same H0 H' → IsP cl H' (.ref x) (.grp s cs) → Q .non H'
theorem ok_init_fx (T : TMake K mg cl) : MakAt P w K mg base CX0 "Fixed" cl.fx 1 ["self", "value"] (spInitFx cl) := by
  refine makAt_of T.parts.c_Fixed (methAt_ok T.parts.c_Fixed.cl T.i_fx sc_Fixed___init__ (fun vs H Q E h => ?_) (fun f cdv A outer s H vs Q E hr h => ?_))
  · obtain ⟨x, dx, b, rfl, _⟩ := h; rfl
  · obtain ⟨x, dx, b, rfl, hx, q⟩ := h
    refine ⟨_, (pss_one (ps_fld (pv 0) (pv 1) rfl)), ?_⟩
    refine ⟨_, rfl, _, rfl, x, _, dx, [], rfl, hx, T.parts.c_Fixed.cl, T.parts.nv_fx, (by show 0 < 1000; decide), ?_⟩
    exact q _ upd_same But.upd
theorem ok_init_ct (T : TMake K mg cl) : MakAt P w K mg base CX0 "Contact" cl.ct 3 ["self", "name"] (spInitCt cl) := by
  have G_is_name : FnAt P w K mg base CX0 "is_name" 2 _ spIsName := ok_is_name T.names
  refine makAt_of T.parts.c_Contact (methAt_ok T.parts.c_Contact.cl T.i_ct sc_Contact___init__ (fun vs H Q E h => ?_) (fun f cdv A outer s H vs Q E hr h => ?_))
  · obtain ⟨x, dx, n, rfl, _⟩ := h; rfl
  · obtain ⟨x, dx, n, rfl, hx, hl, hn, q⟩ := h
    refine ⟨_, (pss_cons (ps_if (pt_not (pt_val (pe_callF G_is_name hr pass0 (pa_cons (pv 1) pa_nil)))) (pss_one ps_never) pss_nil)
        (pss_one (ps_fld (pv 0) (pv 1) rfl))), ?_⟩
    refine ⟨_, rfl, n, rfl, hl, ?_⟩
    rw [hn]
    refine ⟨true, rfl, iteF ?_⟩
    refine ⟨_, rfl, _, rfl, x, _, dx, [], rfl, hx, T.parts.c_Contact.cl, T.parts.nn_ct, (by show 0 < 1000; decide), ?_⟩
    exact q _ upd_same But.upd
theorem ok_init_tn (T : TMake K mg cl) : MakAt P w K mg base CX0 "Turned" cl.tn 23 ["self", "part"] (spInitTn cl) := by
  have G_bounded : DispAt P w K mg base CX0 (fun C => C = cl.tn ∨ C = cl.sr ∨ C = cl.br) "bounded" 22 ["self"] (spBounded cl) := disp_bounded T.parts
  refine makAt_of T.parts.c_Turned (methAt_ok T.parts.c_Turned.cl T.i_tn sc_Turned___init__ (fun vs H Q E h => ?_) (fun f cdv A outer s H vs Q E hr h => ?_))
  · obtain ⟨H0, x, dx, v, c, rfl, _⟩ := h; rfl
  · obtain ⟨H0, x, dx, v, c, rfl, hx, s0, n0, p, hz, hd, q⟩ := h
    refine ⟨_, (pss_cons (ps_fld (pv 0) (pv 1) rfl)
        (pss_one (ps_expr (pe_methD0 G_bounded hr pass0 (pv 0))))), ?_⟩
    refine ⟨_, rfl, _, rfl, x, _, dx, [], rfl, hx, T.parts.c_Turned.cl, T.parts.np_tn, (by show 0 < 1000; decide), ?_⟩
    have s1 : Same H0 (upd H x (.ins cl.tn dx (putF "part" v []))) := Same.mut s0 n0
    have p1 : IsP cl (upd H x (.ins cl.tn dx (putF "part" v []))) (.ref x) (.not c) := .not upd_same (p.mono (Same.imm s1))
    refine ⟨_, rfl, x, _, dx, _, rfl, upd_same, .inl rfl, lk1 (by decide +kernel), x, dx, _, .not c, rfl, upd_same, p1, ?_, ?_, fun H2 s2 => ?_⟩
    · rw [Cond.depth]; omega
    · rw [Cond.size]; omega
    · exact q _ (s1.trans s2) (p1.mono (Same.imm s2))
theorem ok_init_gr (T : TMake K mg cl) (s : Bool) {nm : Str} (c : ClsAt K mg nm (cl.gr s)) (D : MethAt K (cl.gr s) "__init__" "Group.__init__" s_Group___init__ ["self", "parts"]) : MakAt P w K mg base CX0 nm (cl.gr s) 23 ["self", "parts"] (spInitGr cl s) := by
  have G_bounded : DispAt P w K mg base CX0 (fun C => C = cl.tn ∨ C = cl.sr ∨ C = cl.br) "bounded" 22 ["self"] (spBounded cl) := disp_bounded T.parts
  refine makAt_of c (methAt_ok c.cl D sc_Group___init__ (fun vs H Q E h => ?_) (fun f cdv A outer st H vs Q E hr h => ?_))
  · obtain ⟨H0, x, dx, l, ws, cs, rfl, _⟩ := h; rfl
  · obtain ⟨H0, x, dx, l, ws, cs, rfl, hx, s0, n0, hl, ps, h2, hz, hd, q⟩ := h
    have hlen := ps.length
    refine ⟨_, (pss_cons (ps_if (pt_cmpR op_lt (pe_callB call_len_seq (by rfl) T.z_len PySem.boot_len (pa_cons (pv 1) pa_nil)) pe_int (nomark _)) (pss_one ps_never) pss_nil)
        (pss_cons (ps_fld (pv 0) (pe_callTy call_tuple_of (by rfl) T.z_tuple (show PySem.bootBuiltins "tuple" = some (.type "tuple") by decide +kernel) (pa_cons (pv 1) pa_nil)) rfl)
        (pss_one (ps_expr (pe_methD0 G_bounded hr pass0 (pv 0)))))), ?_⟩
    refine ⟨_, rfl, l, ws, rfl, .inl (SqL.of (s0 _ _ hl)), _, _, rfl, rfl, _, rfl, ?_⟩
    rw [decide_eq_false (show ¬ ((ws.length : Int) < 2) by omega)]
    refine iteF ⟨_, rfl, l, ws, rfl, .inl ⟨SqL.of (s0 _ _ hl), fun t nt => ?_⟩⟩
    have hx1 : upd H t (.tup ws) x = some (.ins (cl.gr s) dx []) := Same.new nt _ _ hx
    have ntx : t ≠ x := (ne_of_none hx nt).symm
    refine ⟨_, rfl, x, _, dx, [], rfl, hx1, T.parts.cls (cl.has_gr s), T.parts.np s, (by show 0 < 1000; decide), ?_⟩
    have s1 : Same H0 (upd (upd H t (.tup ws)) x (.ins (cl.gr s) dx (putF "parts" (.ref t) []))) := Same.mut (s0.trans (Same.new nt)) n0
    have p1 : IsP cl (upd (upd H t (.tup ws)) x (.ins (cl.gr s) dx (putF "parts" (.ref t) []))) (.ref x) (.grp s cs) := .grp upd_same (by rw [upd_ne ntx, upd_same]) (ps.mono (Same.imm s1))
    refine ⟨_, rfl, x, _, dx, _, rfl, upd_same, (by cases s; exact .inr (.inr rfl); exact .inr (.inl rfl)), lk1 (by decide +kernel), x, dx, _, .grp s cs, rfl, upd_same, p1, ?_, ?_, fun H2 s2 => ?_⟩
    · rw [Cond.depth]; omega
    · rw [Cond.size]; omega
    · exact q _ (s1.trans s2) (p1.mono (Same.imm s2))
/-! ### what making asks -/
theorem mk_fx {H : Hp} {b : Bool} {Q : VK} {E : XK} (k : ∀ H' x, Same H H' → IsP cl H' (.ref x) (.fixed b) → Q (.ref x) H') : ∀ x dx, H x = none → H dx = none → dx ≠ x → spInitFx cl (.ref x :: ([.bl b] ++ [])) (upd (upd H dx (.own x)) x (.ins cl.fx dx [])) (fun v H' => v = .non ∧ Q (.ref x) H') E :=
  fun x dx nx nd ne => ⟨x, dx, b, rfl, upd_same, fun H' h1 h2 => ⟨rfl, k H' x (fun c o e => h2 c o (same_make nx nd c o e) (ne_of_none e nx)) (.fixed h1)⟩⟩
theorem mk_ct {H : Hp} {n : Str} {Q : VK} {E : XK} (hl : n.length ≤ sizeLine) (hn : isName n = true) (k : ∀ H' x, Same H H' → IsP cl H' (.ref x) (.contact n) → Q (.ref x) H') : ∀ x dx, H x = none → H dx = none → dx ≠ x → spInitCt cl (.ref x :: ([.str n] ++ [])) (upd (upd H dx (.own x)) x (.ins cl.ct dx [])) (fun v H' => v = .non ∧ Q (.ref x) H') E :=
  fun x dx nx nd ne => ⟨x, dx, n, rfl, upd_same, hl, hn, fun H' h1 h2 => ⟨rfl, k H' x (fun c o e => h2 c o (same_make nx nd c o e) (ne_of_none e nx)) (.contact h1)⟩⟩
theorem mk_tn {H : Hp} {v : V} {c : Cond} {Q : VK} {E : XK} (p : IsP cl H v c) (hz : c.size ≤ 59) (hd : c.depth ≤ 19) (k : ∀ H' x, Same H H' → IsP cl H' (.ref x) (.not c) → Q (.ref x) H') : ∀ x dx, H x = none → H dx = none → dx ≠ x → spInitTn cl (.ref x :: ([v] ++ [])) (upd (upd H dx (.own x)) x (.ins cl.tn dx [])) (fun v H' => v = .non ∧ Q (.ref x) H') E :=
  fun x dx nx nd ne => ⟨H, x, dx, v, c, rfl, upd_same, same_make nx nd, nx, p, hz, hd, fun H' h1 h2 => ⟨rfl, k H' x h1 h2⟩⟩
theorem mk_gr {H : Hp} {s : Bool} {l : Addr} {ws : List V} {cs : List Cond} {Q : VK} {E : XK} (hl : H l = some (.lst ws)) (p : IsPs cl H ws cs) (h2 : 2 ≤ cs.length) (hz : Cond.sizes cs ≤ 59) (hd : Cond.depths cs ≤ 19) (k : ∀ H' x, Same H H' → IsP cl H' (.ref x) (.grp s cs) → Q (.ref x) H') :
    ∀ x dx, H x = none → H dx = none → dx ≠ x → spInitGr cl s (.ref x :: ([.ref l] ++ [])) (upd (upd H dx (.own x)) x (.ins (cl.gr s) dx [])) (fun v H' => v = .non ∧ Q (.ref x) H') E :=
  fun x dx nx nd ne => ⟨H, x, dx, l, ws, cs, rfl, upd_same, same_make nx nd, nx, hl, p, h2, hz, hd, fun H' h1 h2 => ⟨rfl, k H' x h1 h2⟩⟩
end

--%% M4
/-! ## the classes of errors -/
structure Xc where
  err : Addr
  name : Addr
  part : Addr
  end_ : Addr
  ladder : Addr
  text : Addr
  row : Addr
  sheet : Addr
  state : Addr
  match_ : Addr
  many : Addr

inductive Xk where
  | name
  | part
  | end_
  | ladder
  | text
  | row
  | sheet
  | state
  | match_
  | many
deriving DecidableEq
def Xc.at (xc : Xc) : Xk → Addr
  | .name => xc.name
  | .part => xc.part
  | .end_ => xc.end_
  | .ladder => xc.ladder
  | .text => xc.text
  | .row => xc.row
  | .sheet => xc.sheet
  | .state => xc.state
  | .match_ => xc.match_
  | .many => xc.many
def Xk.str : Xk → Str
  | .name => "name"
  | .part => "part"
  | .end_ => "end"
  | .ladder => "ladder"
  | .text => "text"
  | .row => "row"
  | .sheet => "sheet"
  | .state => "state"
  | .match_ => "match"
  | .many => "many"
structure TExs (K : PySem.W.Frag) (mg : Str → Option Value) (xc : Xc) : Prop where
  e_err : ErrAt K mg "LadderError" xc.err
  e_name : ExcAt K mg "NoName" xc.name xc.err
  e_part : ExcAt K mg "NoPart" xc.part xc.err
  e_end : ExcAt K mg "NoEnd" xc.end_ xc.err
  e_ladder : ExcAt K mg "NoLadder" xc.ladder xc.err
  e_text : ExcAt K mg "NoText" xc.text xc.err
  e_row : ExcAt K mg "NoRow" xc.row xc.err
  e_sheet : ExcAt K mg "NoSheet" xc.sheet xc.err
  e_state : ExcAt K mg "NoState" xc.state xc.err
  e_match : ExcAt K mg "NoMatch" xc.match_ xc.err
  e_many : ExcAt K mg "TooMany" xc.many xc.err
  ndx : [xc.err, xc.name, xc.part, xc.end_, xc.ladder, xc.text, xc.row, xc.sheet, xc.state, xc.match_, xc.many].Nodup
section
variable {K : PySem.W.Frag} {mg : Str → Option Value} {xc : Xc}
theorem TExs.of (T : TExs K mg xc) (b : Xk) : ∃ x, ExcAt K mg x (xc.at b) xc.err := by
  cases b
  · exact ⟨_, T.e_name⟩
  · exact ⟨_, T.e_part⟩
  · exact ⟨_, T.e_end⟩
  · exact ⟨_, T.e_ladder⟩
  · exact ⟨_, T.e_text⟩
  · exact ⟨_, T.e_row⟩
  · exact ⟨_, T.e_sheet⟩
  · exact ⟨_, T.e_state⟩
  · exact ⟨_, T.e_match⟩
  · exact ⟨_, T.e_many⟩
theorem TExs.err (T : TExs K mg xc) (b : Xk) : xc.at b ≠ xc.err := by
  have nd := T.ndx
  simp only [List.nodup_cons, List.mem_cons, List.not_mem_nil, or_false, not_or] at nd
  intro e
  cases b <;> simp only [Xc.at] at e <;> simp_all
theorem TExs.inj (T : TExs K mg xc) (a b : Xk) (h : xc.at a = xc.at b) : a = b := by
  have nd := T.ndx
  simp only [List.nodup_cons, List.mem_cons, List.not_mem_nil, or_false, not_or] at nd
  cases a <;> cases b <;> first | rfl | (exfalso; simp only [Xc.at] at h; simp_all)
theorem TExs.kit (T : TExs K mg xc) (a b : Xk) : PySem.W.kitOne K (.ref (xc.at a)) (.ref (xc.at b)) = some (decide (a = b)) := by
  obtain ⟨x, h1⟩ := T.of a
  obtain ⟨y, h2⟩ := T.of b
  rw [h1.kit h2 ⟨T.err a, T.err b⟩]
  congr 1
  by_cases h : a = b
  · rw [decide_eq_true h, h, decide_eq_true rfl]
  · rw [decide_eq_false h, decide_eq_false fun e => h (T.inj a b e)]
end

/-! ## sheets: the object -/
abbrev s_Sheet_place : Stmt := inClass (top 33) 1
theorem sc_Sheet_place : FnScope ["self", "node"] ["self", "node"] (defScope s_Sheet_place) := ⟨rfl, rfl, rfl, by decide +kernel, rfl, by decide +kernel, by decide +kernel⟩
abbrev s_Sheet_made : Stmt := inClass (top 33) 2
theorem sc_Sheet_made : FnScope ["self", "place", "low", "high", "key"] ["self", "place", "low", "high"] (defScope s_Sheet_made) := ⟨rfl, rfl, rfl, by decide +kernel, rfl, by decide +kernel, by decide +kernel⟩
abbrev s_Sheet_below : Stmt := inClass (top 33) 3
theorem sc_Sheet_below : FnScope ["self", "node", "place"] ["self", "node", "place"] (defScope s_Sheet_below) := ⟨rfl, rfl, rfl, by decide +kernel, rfl, by decide +kernel, by decide +kernel⟩
abbrev s_Sheet_joined : Stmt := inClass (top 33) 5
theorem sc_Sheet_joined : FnScope ["self", "one", "other", "stop", "known", "place", "here", "there", "low"] ["self", "one", "other", "stop", "known"] (defScope s_Sheet_joined) := ⟨rfl, rfl, rfl, by decide +kernel, rfl, by decide +kernel, by decide +kernel⟩
def shF (tn ln dn : Addr) : List (Str × V) := [("names", .ref tn), ("nodes", .ref ln), ("numbers", .ref dn)]
theorem lkS1 {tn ln dn : Addr} : List.lookup ("names" : Str) (shF tn ln dn) = some (.ref tn) := by simp [List.lookup, shF]
theorem lkS2 {tn ln dn : Addr} : List.lookup ("nodes" : Str) (shF tn ln dn) = some (.ref ln) := by
  have e : (("nodes" : Str) == ("names" : Str)) = false := by decide +kernel
  simp [List.lookup, shF, e]
theorem lkS3 {tn ln dn : Addr} : List.lookup ("numbers" : Str) (shF tn ln dn) = some (.ref dn) := by
  have e : (("numbers" : Str) == ("names" : Str)) = false := by decide +kernel
  have e1 : (("numbers" : Str) == ("nodes" : Str)) = false := by decide +kernel
  simp [List.lookup, shF, e, e1]
theorem lkSn {tn ln dn : Addr} {m : Str} (h : ((m == ("names" : Str)) || (m == ("nodes" : Str)) || (m == ("numbers" : Str))) = false) : List.lookup m (shF tn ln dn) = none := by
  simp only [Bool.or_eq_false_iff] at h
  simp [List.lookup, shF, h]
/-- a node as it stands in the list, and as a key -/
def ndV (t : Sh.Nd) : List V := [.int t.1, .int t.2.1, .int t.2.2]
def ndK (t : Sh.Nd) : List Key := [.inl t.1, .inl t.2.1, .inl t.2.2]
theorem ndK_V (t : Sh.Nd) : (ndK t).map kV = ndV t := rfl
theorem ndK_inj {t u : Sh.Nd} : ndK t = ndK u ↔ t = u := by
  constructor
  · intro h
    obtain ⟨a, b, c⟩ := t
    obtain ⟨a', b', c'⟩ := u
    unfold ndK at h
    simp only [List.cons.injEq, Sum.inl.injEq, Int.natCast_inj, and_true] at h
    obtain ⟨h1, h2, h3⟩ := h
    have q1 : a = a' := by omega
    have q2 : b = b' := by omega
    have q3 : c = c' := by omega
    rw [q1, q2, q3]
  · rintro rfl; rfl
def NdR (H : Hp) (v : V) (t : Sh.Nd) : Prop := ∃ a, v = .ref a ∧ H a = some (.tup (ndV t))
/-- the numbers of the nodes -/
def numsV : Nat → List Sh.Nd → List (List Key × V)
  | _, [] => []
  | i, t :: r => (ndK t, .int ((i + 2 : Nat) : Int)) :: numsV (i + 1) r
theorem numsV_get : ∀ (ns : List Sh.Nd) (i : Nat) (t : Sh.Nd), valV (numsV i ns) (ndK t) = (Sh.num? ns i t).map fun k : Nat => V.int k
  | [], _, _ => rfl
  | u :: r, i, t => by
    unfold numsV Sh.num?
    by_cases h : u = t
    · subst h
      rw [if_pos rfl, valV_pos rfl]
      rfl
    · rw [if_neg h, valV_neg (fun e => h (ndK_inj.mp e)), numsV_get r]
theorem numsV_snoc : ∀ (ns : List Sh.Nd) (i : Nat) (t : Sh.Nd), numsV i (ns ++ [t]) = numsV i ns ++ [(ndK t, .int ((i + ns.length + 2 : Nat) : Int))]
  | [], i, t => rfl
  | u :: r, i, t => by
    rw [List.cons_append, numsV, numsV, numsV_snoc r, List.length_cons, List.cons_append]
    rw [show i + (r.length + 1) + 2 = i + 1 + r.length + 2 by omega]
theorem numsV_len : ∀ (ns : List Sh.Nd) (i : Nat), (numsV i ns).length = ns.length
  | [], _ => rfl
  | u :: r, i => by rw [numsV, List.length_cons, numsV_len r, List.length_cons]
theorem num_snoc : ∀ {ns : List Sh.Nd} {i : Nat} {u : Sh.Nd}, Sh.num? ns i u = none → Sh.num? (ns ++ [u]) i u = some (i + ns.length + 2)
  | [], i, u, _ => by simp [Sh.num?]
  | t :: r, i, u, e => by
    unfold Sh.num? at e
    by_cases h : t = u
    · rw [if_pos h] at e; cases e
    · rw [if_neg h] at e
      rw [List.cons_append, Sh.num?, if_neg h, num_snoc e, List.length_cons]
      congr 1
      omega
/-- a dict of pairs of nodes: what is known -/
structure KnV (kvs : List (List Key × V)) (kn : Sh.Kn) : Prop where
  get : ∀ a c : Nat, valV kvs [.inl a, .inl c] = (kn a c).map fun r : Nat => V.int r
  nd : (kvs.map (·.1)).Nodup
  sm : ∀ k ∈ kvs.map (·.1), ∃ a c : Nat, k = [.inl (a : Int), .inl (c : Int)] ∧ a < 2002 ∧ c < 2002
/-- numbers below n, none twice, are at most n -/
theorem nodup_lt : ∀ (n : Nat) (l : List Nat), l.Nodup → (∀ x ∈ l, x < n) → l.length ≤ n := by
  intro n
  induction n with
  | zero =>
    intro l _ h
    cases l with
    | nil => exact Nat.le_refl _
    | cons x l => exact absurd (h x List.mem_cons_self) (by omega)
  | succ n ih =>
    intro l nd h
    have h1 : (l.filter fun x => decide (x ≠ n)).length ≤ n := ih _ (nd.filter _) fun x hx => by
      obtain ⟨hx, e⟩ := List.mem_filter.mp hx
      have := h x hx
      have e := of_decide_eq_true e
      omega
    have h2 : ∀ l : List Nat, l.Nodup → l.length ≤ (l.filter fun x => decide (x ≠ n)).length + 1 := by
      intro l
      induction l with
      | nil => intro _; exact Nat.zero_le _
      | cons x l ih =>
        intro nd
        obtain ⟨n1, n2⟩ := List.nodup_cons.mp nd
        by_cases e : x = n
        · subst e
          have e1 : (l.filter fun y => decide (y ≠ x)) = l := List.filter_eq_self.mpr fun y hy => decide_eq_true fun z => n1 (z ▸ hy)
          rw [List.filter_cons_of_neg (by simp), e1, List.length_cons]
          exact Nat.le_refl _
        · rw [List.filter_cons_of_pos (by simpa using e), List.length_cons, List.length_cons]
          have := ih n2
          omega
    have := h2 l nd
    omega
theorem KnV.nil : KnV [] fun _ _ => none := ⟨fun _ _ => rfl, List.nodup_nil, fun _ h => by cases h⟩
theorem KnV.len {kvs : List (List Key × V)} {kn : Sh.Kn} (h : KnV kvs kn) : kvs.length ≤ 2002 * 2002 := by
  have key : ∀ l : List (List Key), l.Nodup → (∀ k ∈ l, ∃ a c : Nat, k = [.inl (a : Int), .inl (c : Int)] ∧ a < 2002 ∧ c < 2002) → ∃ m : List Nat, m.length = l.length ∧ m.Nodup ∧ (∀ x ∈ m, x < 2002 * 2002) ∧ ∀ x ∈ m, ∃ a c : Nat, x = a * 2002 + c ∧ c < 2002 ∧ [.inl (a : Int), .inl (c : Int)] ∈ l := by
    intro l
    induction l with
    | nil => intro _ _; exact ⟨[], rfl, List.nodup_nil, (fun _ h => nomatch h), (fun _ h => nomatch h)⟩
    | cons k l ih =>
      intro nd hs
      obtain ⟨n1, n2⟩ := List.nodup_cons.mp nd
      obtain ⟨m, e1, e2, e3, e4⟩ := ih n2 fun k hk => hs k (List.mem_cons_of_mem _ hk)
      obtain ⟨a, c, rfl, ha, hc⟩ := hs k List.mem_cons_self
      refine ⟨(a * 2002 + c) :: m, by simp [e1], List.nodup_cons.mpr ⟨fun hm => ?_, e2⟩, fun x hx => ?_, fun x hx => ?_⟩
      · obtain ⟨a', c', e, hc', hm'⟩ := e4 _ hm
        have : a = a' ∧ c = c' := by omega
        obtain ⟨rfl, rfl⟩ := this
        exact n1 hm'
      · rcases List.mem_cons.mp hx with rfl | hx
        · omega
        · exact e3 x hx
      · rcases List.mem_cons.mp hx with rfl | hx
        · exact ⟨a, c, rfl, hc, List.mem_cons_self⟩
        · obtain ⟨a', c', e, hc', hm'⟩ := e4 x hx
          exact ⟨a', c', e, hc', List.mem_cons_of_mem _ hm'⟩
  obtain ⟨m, e1, e2, e3, _⟩ := key _ h.nd h.sm
  rw [List.length_map] at e1
  rw [← e1]
  exact nodup_lt _ m e2 e3
theorem KnV.put {kvs : List (List Key × V)} {kn : Sh.Kn} (h : KnV kvs kn) {a c r : Nat} (ha : a < 2002) (hc : c < 2002) : KnV (putK kvs [.inl (a : Int), .inl (c : Int)] (.int r)) (Sh.kput kn a c r) := by
  have keys : ∀ k, k ∈ (putK kvs [.inl (a : Int), .inl (c : Int)] (V.int r)).map (·.1) → k ∈ kvs.map (·.1) ∨ k = [.inl (a : Int), .inl (c : Int)] := fun k hk => by
    unfold putK at hk
    split at hk
    · rw [List.map_map] at hk
      obtain ⟨p, hp, rfl⟩ := List.mem_map.mp hk
      left
      refine List.mem_map.mpr ⟨p, hp, ?_⟩
      simp only [Function.comp]
      split <;> rfl
    · rw [List.map_append, List.mem_append] at hk
      rcases hk with hk | hk
      · exact .inl hk
      · exact .inr (List.mem_singleton.mp hk)
  refine ⟨fun x y => ?_, ?_, fun k hk => ?_⟩
  · rw [valV_put]
    unfold Sh.kput
    by_cases e : x = a ∧ y = c
    · obtain ⟨rfl, rfl⟩ := e
      rw [if_pos rfl, if_pos ⟨rfl, rfl⟩]
      rfl
    · rw [if_neg e, if_neg, h.get]
      intro q
      simp only [List.cons.injEq, Sum.inl.injEq, and_true] at q
      exact e ⟨by omega, by omega⟩
  · unfold putK
    split
    · rw [List.map_map]
      have : (((fun kv : List Key × V => kv.1) ∘ fun kv : List Key × V => if kv.1 = [.inl (a : Int), .inl (c : Int)] then (kv.1, V.int r) else kv) = fun kv => kv.1) := by
        funext kv
        simp only [Function.comp]
        split <;> rfl
      rw [this]
      exact h.nd
    · rename_i hn
      rw [List.map_append, List.nodup_append]
      refine ⟨h.nd, by simp, fun x hx y hy e => hn ?_⟩
      obtain ⟨p, hp, rfl⟩ := List.mem_map.mp hx
      rw [List.any_eq_true]
      exact ⟨p, hp, decide_eq_true (e.trans (List.mem_singleton.mp hy))⟩
  · rcases keys k hk with hk | rfl
    · exact h.sm k hk
    · exact ⟨a, c, rfl, ha, hc⟩
/-- a sheet: its names, its nodes -/
structure ShO (C : Addr) (H : Hp) (x dx tn ln dn : Addr) (names : List Str) (ns : List Sh.Nd) : Prop where
  ob : H x = some (.ins C dx (shF tn ln dn))
  hn : TupN H tn (names.map V.str)
  hl : ∃ vs, H ln = some (.lst vs) ∧ Two (NdR H) vs ns
  hd : H dn = some (.dT (numsV 0 ns))
  le : ns.length ≤ 2000
/-- all stays but what stands at a, b, c -/
def K3 (a b c : Addr) (H H' : Hp) : Prop := ∀ q o, H q = some o → q ≠ a → q ≠ b → q ≠ c → H' q = some o
section
variable {a b c : Addr} {H H' H2 : Hp} {o : HO}
theorem K3.refl (H : Hp) : K3 a b c H H := fun _ _ e _ _ _ => e
theorem K3.trans (h : K3 a b c H H') (k : K3 a b c H' H2) : K3 a b c H H2 := fun q o e n1 n2 n3 => k q o (h q o e n1 n2 n3) n1 n2 n3
theorem _root_.Ru.Same.k3 (h : Same H H') : K3 a b c H H' := fun q o e _ _ _ => h q o e
theorem K3.ua : K3 a b c H (upd H a o) := fun q o e n1 _ _ => by rw [upd_ne n1]; exact e
theorem K3.ub : K3 a b c H (upd H b o) := fun q o e _ n2 _ => by rw [upd_ne n2]; exact e
theorem K3.uc : K3 a b c H (upd H c o) := fun q o e _ _ n3 => by rw [upd_ne n3]; exact e
theorem K3.new {p : Addr} (h : K3 a b c H H') (np : H p = none) : K3 a b c H (upd H' p o) := fun q u e n1 n2 n3 => by
  rw [upd_ne (ne_of_none e np)]
  exact h q u e n1 n2 n3
theorem K3.more (h : K3 a b b H H') : K3 a b c H H' := fun q o e n1 n2 _ => h q o e n1 n2 n2
/-- c was not there -/
theorem K3.drop {H0 : Hp} (s : Same H0 H) (h : K3 a b c H H') (n : H0 c = none) : K3 a b b H0 H' := fun q o e n1 n2 _ => h q o (s q o e) n1 n2 (ne_of_none e n)
theorem K3.imm {T : Addr → Prop} (h : K3 a b c H H') (na : ∀ o, H a = some o → ¬ ImmO T o) (nb : ∀ o, H b = some o → ¬ ImmO T o) (nc : ∀ o, H c = some o → ¬ ImmO T o) : Imm T H H' := fun q o e i =>
  h q o e (fun z => na o (z ▸ e) i) (fun z => nb o (z ▸ e) i) (fun z => nc o (z ▸ e) i)
end
section
variable {C x dx tn ln dn : Addr} {H H' : Hp} {names : List Str} {ns : List Sh.Nd}
theorem ShO.keep (s : ShO C H x dx tn ln dn names ns) (k : Same H H') : ShO C H' x dx tn ln dn names ns :=
  ⟨k _ _ s.ob, s.hn.keep k, let ⟨vs, h1, h2⟩ := s.hl; ⟨vs, k _ _ h1, h2.mono fun v t ⟨a, e, h⟩ => ⟨a, e, k _ _ h⟩⟩, k _ _ s.hd, s.le⟩
theorem ShO.n_ln (s : ShO C H x dx tn ln dn names ns) {q : Addr} {o : HO} (e : H q = some o) (h : ∀ vs, o ≠ .lst vs) : q ≠ ln := fun z => by
  obtain ⟨vs, h1, _⟩ := s.hl
  rw [z, h1] at e
  cases e
  exact h vs rfl
theorem ShO.n_dn (s : ShO C H x dx tn ln dn names ns) {q : Addr} {o : HO} (e : H q = some o) (h : ∀ kvs, o ≠ .dT kvs) : q ≠ dn := fun z => by
  rw [z, s.hd] at e
  cases e
  exact h _ rfl
/-- nothing of it is at c -/
theorem ShO.far (s : ShO C H x dx tn ln dn names ns) (k : K3 c c c H H') {o : HO} (hc : H c = some o) (n1 : ∀ D d fs, o ≠ .ins D d fs) (n2 : ∀ vs, o ≠ .tup vs) (n5 : ∀ a b, o ≠ .frz a b) (n3 : c ≠ ln) (n4 : c ≠ dn) : ShO C H' x dx tn ln dn names ns := by
  have off : ∀ {q : Addr} {u : HO}, H q = some u → u ≠ o → H' q = some u := fun {q u} e n => by
    have : q ≠ c := fun z => by rw [z, hc] at e; cases e; exact n rfl
    exact k q u e this this this
  obtain ⟨vs, h1, h2⟩ := s.hl
  exact ⟨off s.ob (fun e => n1 _ _ _ e.symm), (let ⟨o2, e2, d2⟩ := s.hn; ⟨o2, off e2 (fun e => n5 _ _ e.symm), d2⟩), ⟨vs, k _ _ h1 n3.symm n3.symm n3.symm, h2.mono fun v t ⟨a, e, h⟩ => ⟨a, e, off h (fun e => n2 _ e.symm)⟩⟩, k _ _ s.hd n4.symm n4.symm n4.symm, s.le⟩
theorem ShO.at (s : ShO C H x dx tn ln dn names ns) {k : Nat} {t : Sh.Nd} (h2 : 2 ≤ k) (e : ns[k - 2]? = some t) : ∃ vs a, H ln = some (.lst vs) ∧ atI vs ((k : Int) - 2) = some (.ref a) ∧ H a = some (.tup (ndV t)) ∧ vs.length = ns.length := by
  obtain ⟨vs, h1, h3⟩ := s.hl
  have hl := h3.length
  have hk := (List.getElem?_eq_some_iff.mp e).1
  have hv : vs[k - 2]? = some vs[k - 2] := List.getElem?_eq_getElem (by omega)
  obtain ⟨u, e1, a, e2, h4⟩ := h3.at hv
  rw [e] at e1
  cases e1
  exact ⟨vs, a, h1, atI_int (by omega) (by rw [show ((k : Int) - 2).toNat = k - 2 by omega, hv, e2]), h4, hl⟩
theorem K3.tup {c : Addr} {kvs : List (List Key × V)} (k : K3 ln dn c H H') (s : ShO C H x dx tn ln dn names ns) (hc : H c = some (.dT kvs)) {q : Addr} {zs : List V} (e : H q = some (.tup zs)) : H' q = some (.tup zs) :=
  k q _ e (s.n_ln e fun _ e => by cases e) (s.n_dn e fun _ e => by cases e) (fun z => by rw [z, hc] at e; cases e)
end
structure TSheet (K : PySem.W.Frag) (mg : Str → Option Value) (xc : Xc) (cs : Addr) : Prop where
  e_many : ExcAt K mg "TooMany" xc.many xc.err
  c_Sheet : ClsAt K mg "Sheet" cs
  n_names : NoAttr K cs "names"
  n_nodes : NoAttr K cs "nodes"
  n_numbers : NoAttr K cs "numbers"
  m_place : MethAt K cs "place" "Sheet.place" s_Sheet_place ["self", "node"]
  m_made : MethAt K cs "made" "Sheet.made" s_Sheet_made ["self", "place", "low", "high"]
  m_below : MethAt K cs "below" "Sheet.below" s_Sheet_below ["self", "node", "place"]
  m_joined : MethAt K cs "joined" "Sheet.joined" s_Sheet_joined ["self", "one", "other", "stop", "known"]
  g_MOST_NODES : GlobC mg "MOST_NODES" (.int 2000)
  z_len : mg "len" = none
  z_min : mg "min" = none
section
variable {P : Program} {w : World} {K : PySem.W.Frag} {mg : Str → Option Value} {base : Heap} {xc : Xc} {cs : Addr}
def spPlace (cs : Addr) : Sp := fun vs H Q _ => ∃ (x dx tn ln dn : Addr) (names : List Str) (ns : List Sh.Nd) (k : Nat), vs = [.ref x, .int k] ∧ ShO cs H x dx tn ln dn names ns ∧ k < ns.length + 2 ∧ Q (.int (Sh.pl names.length ns k : Nat)) H
theorem disp_place (T : TSheet K mg xc cs) : DispAt P w K mg base CX0 (fun C => C = cs) "place" 1 ["self", "node"] (fun _ => spPlace cs) := by
  refine ⟨fun C hC => ?_⟩
  subst hC
  refine methAt_ok T.c_Sheet.cl T.m_place sc_Sheet_place (fun vs H Q E h => ?_) (fun f cdv A outer st H vs Q E hr h => ?_)
  · obtain ⟨x, dx, tn, ln, dn, names, ns, k, rfl, _⟩ := h; rfl
  · obtain ⟨x, dx, tn, ln, dn, names, ns, k, rfl, s, hk, q⟩ := h
    have hu := hu_of hr
    refine ⟨_, (pss_cons (ps_if (pt_cmpR op_lt (pv 1) pe_int (nomark _)) (pss_one (ps_ret (pe_callB call_len_seq (by rfl) T.z_len PySem.boot_len (pa_cons (pe_fld (pv 0) rfl) pa_nil)))) pss_nil)
        (pss_one (ps_ret (pe_ix ix_tup (pe_ix ix_list (pe_fld (pv 0) rfl) (pe_op op_sub (pv 1) pe_int) (fun _ _ => rfl)) pe_int (fun _ _ => rfl))))), ?_⟩
    walk_at "rd"
    by_cases h2 : k < 2
    · rw [decide_eq_true (show (k : Int) < 2 by omega)]
      rw [Sh.pl_low h2] at q
      refine iteT ⟨_, rfl, x, _, dx, _, _, rfl, s.ob, T.c_Sheet.cl, T.n_names, lkS1, tn, rfl, _, .inr s.hn.sq, ?_⟩
      rw [List.length_map]
      exact q
    · rw [decide_eq_false (show ¬ (k : Int) < 2 by omega)]
      obtain ⟨p, l, h, e⟩ := Sh.at_some (by omega : 2 ≤ k) hk
      rw [Sh.pl_at (by omega) e] at q
      obtain ⟨vs, a, h1, h3, h4, h5⟩ := s.at (by omega) e
      exact iteF ⟨_, rfl, x, _, dx, _, _, rfl, s.ob, T.c_Sheet.cl, T.n_nodes, lkS2, ln, vs, _, .ref a, rfl, rfl, SqL.of h1, h3, a, _, 0, .int p, rfl, rfl, SqT.of h4, rfl, q⟩
def spMade (cs : Addr) (xc : Xc) : Sp := fun vs H Q E => ∃ (x dx tn ln dn : Addr) (names : List Str) (ns : List Sh.Nd) (p l h : Nat), vs = [.ref x, .int p, .int l, .int h] ∧ ShO cs H x dx tn ln dn names ns ∧
  ((Sh.made ns p l h).2.length ≤ 2000 → ∀ H', K3 ln dn dn H H' → ShO cs H' x dx tn ln dn names (Sh.made ns p l h).2 → Q (.int ((Sh.made ns p l h).1 : Nat)) H') ∧
  (2000 < (Sh.made ns p l h).2.length → ∀ H', Same H H' → E (.ref xc.many) none H')
theorem disp_made (T : TSheet K mg xc cs) : DispAt P w K mg base (L2.CX P w) (fun C => C = cs) "made" 1 ["self", "place", "low", "high"] (fun _ => spMade cs xc) := by
  have e_TooMany := T.e_many
  refine ⟨fun C hC => ?_⟩
  subst hC
  refine methAt_okX T.c_Sheet.cl T.m_made sc_Sheet_made (fun vs H Q E h => ?_) (fun f cdv A outer st H vs Q E hr h => ?_)
  · obtain ⟨x, dx, tn, ln, dn, names, ns, p, l, h, rfl, _⟩ := h; rfl
  · obtain ⟨x, dx, tn, ln, dn, names, ns, p, l, h, rfl, s, q, qx⟩ := h
    have hu := hu_of hr
    refine ⟨_, (pss_cons (ps_if (pt_cmpR op_eq (pv 2) (pv 3) (nomark _)) (pss_one (ps_ret (pv 2))) pss_nil)
        (pss_cons (ps_set (i := 4) sc_Sheet_made.nd rfl (by first | exact Or.inl rfl | exact Or.inr rfl) (pe_tup (pa_cons (pv 1) (pa_cons (pv 2) (pa_cons (pv 3) pa_nil)))))
        (C8.pss_cut (ps_if (pt_cmp (pc_dnotin hu (pv 4) (pe_fld (pv 0) rfl))) (pss_cons (ps_if (pt_cmpR op_eq (pe_callB call_len_seq (by rfl) T.z_len PySem.boot_len (pa_cons (pe_fld (pv 0) rfl) pa_nil)) (pe_gc T.g_MOST_NODES) (nomark _)) (pss_one (ps_raiseO rfl e_TooMany (L2.takes_of rfl rfl rfl rfl))) pss_nil)
          (pss_cons (ps_expr (pe_bm PySem.F.plainAttrs_list PySem.F.slot_list_append PySem.F.type_list_append mt_append (pe_fld (pv 0) rfl) (pa_cons (pv 4) pa_nil)))
          (pss_one (ps_dput hu (pe_fld (pv 0) rfl) (pv 4) (pe_op op_add (pe_callB call_len_seq (by rfl) T.z_len PySem.boot_len (pa_cons (pe_fld (pv 0) rfl) pa_nil)) pe_int) rfl)))) pss_nil)
        (pss_one (ps_ret (pe_dget (by exact hu) (pe_fld (pv 0) rfl) (pv 4) (fun _ _ => rfl))))))), ?_⟩
    walk_at "rd"
    by_cases hlh : l = h
    · subst hlh
      rw [decide_eq_true (show (l : Int) = (l : Int) from rfl)]
      have e : Sh.made ns p l l = (l, ns) := by unfold Sh.made; rw [if_pos rfl]
      rw [e] at q
      exact iteT (q s.le H (K3.refl H) s)
    · rw [decide_eq_false (show ¬ ((l : Int) = (h : Int)) by omega)]
      refine iteF ⟨line_ge (by simp), fun pk nk => ?_⟩
      have s1 : Same H (upd H pk (.tup (ndV (p, l, h)))) := Same.new nk
      have hk1 : upd H pk (.tup (ndV (p, l, h))) pk = some (.tup (ndV (p, l, h))) := upd_same
      show C8.tCut _ _ _ _ (upd H pk (.tup (ndV (p, l, h))))
      generalize upd H pk (.tup (ndV (p, l, h))) = H1 at s1 hk1 ⊢
      have sh1 := s.keep s1
      have n1 : pk ≠ ln := sh1.n_ln hk1 (fun _ e => by cases e)
      have n2 : pk ≠ dn := sh1.n_dn hk1 (fun _ e => by cases e)
      have hget := numsV_get ns 0 (p, l, h)
      refine ⟨fun σ' H' => σ' = [some (.ref x), some (.int p), some (.int l), some (.int h), some (.ref pk)] ∧ K3 ln dn dn H H' ∧ ShO C H' x dx tn ln dn names (Sh.made ns p l h).2 ∧ H' pk = some (.tup (ndV (p, l, h))) ∧ Sh.num? (Sh.made ns p l h).2 0 (p, l, h) = some (Sh.made ns p l h).1, ?_, ?_⟩
      · walk_at "rd"
        refine ⟨_, rfl, _, rfl, x, _, dx, _, _, rfl, sh1.ob, T.c_Sheet.cl, T.n_numbers, lkS3, dn, _, rfl, DGet.t (k := ndK (p, l, h)) sh1.hd hk1, ?_⟩
        rw [hget]
        cases e : Sh.num? ns 0 (p, l, h) with
        | some k =>
          have e2 : Sh.made ns p l h = (k, ns) := by unfold Sh.made; rw [if_neg hlh, e]
          rw [e2]
          exact ⟨false, rfl, iteF ⟨Same.k3 s1, sh1, hk1, e⟩⟩
        | none =>
          have e2 : Sh.made ns p l h = (ns.length + 2, ns ++ [(p, l, h)]) := by unfold Sh.made; rw [if_neg hlh, e]
          rw [e2] at q qx ⊢
          simp only [List.length_append, List.length_singleton] at q qx
          obtain ⟨vs, hv1, hv2⟩ := sh1.hl
          have hvl := hv2.length
          refine ⟨true, rfl, iteT ⟨_, rfl, x, _, dx, _, _, rfl, sh1.ob, T.c_Sheet.cl, T.n_nodes, lkS2, ln, rfl, _, .inl (SqL.of hv1), ?_⟩⟩
          by_cases hfull : ns.length = 2000
          · rw [decide_eq_true (show (vs.length : Int) = 2000 by omega)]
            exact iteT (qx (by omega) H1 s1)
          · rw [decide_eq_false (show ¬ (vs.length : Int) = 2000 by omega)]
            refine iteF ?_
            unfold tBM
            walk_at "rd"
            refine ⟨_, rfl, x, _, dx, _, _, rfl, sh1.ob, T.c_Sheet.cl, T.n_nodes, lkS2, .inl ⟨rfl, _, SqL.of hv1⟩, ln, vs, .ref pk, rfl, rfl, hv1, by rw [sizeLine_eq]; have := s.le; omega, ?_⟩
            have hv3 : upd H1 ln (.lst (vs ++ [.ref pk])) ln = some (.lst (vs ++ [.ref pk])) := upd_same
            have off : ∀ {q : Addr} {o : HO}, H1 q = some o → q ≠ ln → upd H1 ln (.lst (vs ++ [.ref pk])) q = some o := fun {q o} e n => by rw [upd_ne n]; exact e
            have k13 : K3 ln dn dn H1 (upd H1 ln (.lst (vs ++ [.ref pk]))) := K3.ua
            generalize upd H1 ln (.lst (vs ++ [.ref pk])) = H3 at hv3 off k13 ⊢
            have ob3 := off sh1.ob (sh1.n_ln sh1.ob fun _ e => by cases e)
            have hd3 := off sh1.hd (sh1.n_ln sh1.hd fun _ e => by cases e)
            have hk3 := off hk1 n1
            have ndl : dn ≠ ln := sh1.n_ln sh1.hd fun _ e => by cases e
            refine ⟨_, rfl, x, _, dx, _, _, rfl, ob3, T.c_Sheet.cl, T.n_nodes, lkS2, ln, rfl, _, .inl (SqL.of hv3), _, _, rfl, rfl, _, rfl, x, _, dx, _, _, rfl, ob3, T.c_Sheet.cl, T.n_numbers, lkS3, _, rfl, dn, _, rfl, DPut.t (k := ndK (p, l, h)) hd3 hk3 (by rw [numsV_len, sizeLine_eq]; have := s.le; omega), ?_⟩
            rw [putK_new _ (by rw [hget, e]; rfl)]
            show _ ∧ _
            have ev : ((fun i j : Int => V.int (i + j)) ((vs ++ [V.ref pk]).length : Nat) 1) = V.int ((0 + ns.length + 2 : Nat) : Int) := by
              show V.int _ = V.int _
              rw [List.length_append, List.length_singleton]
              congr 1
              omega
            rw [ev, ← numsV_snoc]
            have k34 : K3 ln dn dn H3 (upd H3 dn (.dT (numsV 0 (ns ++ [(p, l, h)])))) := K3.ub
            have hd4 : upd H3 dn (.dT (numsV 0 (ns ++ [(p, l, h)]))) dn = some (.dT (numsV 0 (ns ++ [(p, l, h)]))) := upd_same
            have off4 : ∀ {q : Addr} {o : HO}, H3 q = some o → q ≠ dn → upd H3 dn (.dT (numsV 0 (ns ++ [(p, l, h)]))) q = some o := fun {q o} e n => by rw [upd_ne n]; exact e
            generalize upd H3 dn (.dT (numsV 0 (ns ++ [(p, l, h)]))) = H4 at k34 hd4 off4 ⊢
            have tup4 : ∀ {q : Addr} {zs : List V}, H1 q = some (.tup zs) → H4 q = some (.tup zs) := fun {q zs} e => off4 (off e (sh1.n_ln e fun _ e => by cases e)) (sh1.n_dn e fun _ e => by cases e)
            refine ⟨rfl, K3.trans (Same.k3 s1) (K3.trans k13 k34), ⟨off4 ob3 (sh1.n_dn sh1.ob fun _ e => by cases e), (let ⟨o2, e2, d2⟩ := sh1.hn; ⟨o2, off4 (off e2 (sh1.n_ln e2 fun _ e => by cases e)) (sh1.n_dn e2 fun _ e => by cases e), d2⟩), ⟨_, off4 hv3 ndl.symm, (hv2.mono fun v t ⟨a, e, h⟩ => ⟨a, e, tup4 h⟩).app (Two.one ⟨pk, rfl, tup4 hk1⟩)⟩, hd4, by have := s.le; simp; omega⟩, tup4 hk1, ?_⟩
            have en := num_snoc e
            rw [Nat.zero_add] at en
            exact en
      · rintro σ' H' ⟨rfl, k2, sh2, hk2, e⟩
        walk_at "rd"
        refine ⟨_, rfl, x, _, dx, _, _, rfl, sh2.ob, T.c_Sheet.cl, T.n_numbers, lkS3, _, rfl, dn, .int ((Sh.made ns p l h).1 : Nat), rfl, ?_, q sh2.le H' k2 sh2⟩
        have g := DGet.t (k := ndK (p, l, h)) sh2.hd hk2
        rw [numsV_get, e] at g
        exact g
def spBelow (cs : Addr) : Sp := fun vs H Q _ => ∃ (x dx tn ln dn : Addr) (names : List Str) (ns : List Sh.Nd) (k p : Nat), vs = [.ref x, .int k, .int p] ∧ ShO cs H x dx tn ln dn names ns ∧ k < ns.length + 2 ∧ p < names.length ∧
  ∀ (H' : Hp) (t : Addr), Same H H' → H' t = some (.tup [.int (Sh.below names.length ns k p).1, .int (Sh.below names.length ns k p).2]) → Q (.ref t) H'
theorem disp_below (T : TSheet K mg xc cs) : DispAt P w K mg base CX0 (fun C => C = cs) "below" 2 ["self", "node", "place"] (fun _ => spBelow cs) := by
  have G_place : DispAt P w K mg base CX0 (fun C => C = cs) "place" 1 ["self", "node"] (fun _ => spPlace cs) := disp_place T
  refine ⟨fun C hC => ?_⟩
  subst hC
  refine methAt_ok T.c_Sheet.cl T.m_below sc_Sheet_below (fun vs H Q E h => ?_) (fun f cdv A outer st H vs Q E hr h => ?_)
  · obtain ⟨x, dx, tn, ln, dn, names, ns, k, p, rfl, _⟩ := h; rfl
  · obtain ⟨x, dx, tn, ln, dn, names, ns, k, p, rfl, s, hk, hp, q⟩ := h
    have hu := hu_of hr
    refine ⟨_, (pss_cons (ps_if (pt_cmpR op_gt (pe_methD G_place hr pass0 (pv 0) (pa_cons (pv 1) pa_nil)) (pv 2) (nomark _)) (pss_one (ps_ret (pe_tup (pa_cons (pv 1) (pa_cons (pv 1) pa_nil))))) pss_nil)
        (pss_one (ps_ret (pe_slice sl_tup (pe_ix ix_list (pe_fld (pv 0) rfl) (pe_op op_sub (pv 1) pe_int) (fun _ _ => rfl)) (po_some pe_int) po_none)))), ?_⟩
    walk_at "rd"
    refine ⟨_, rfl, x, C, dx, _, rfl, s.ob, rfl, lkSn (by decide +kernel), _, rfl, x, dx, tn, ln, dn, names, ns, k, rfl, s, hk, _, rfl, ?_⟩
    by_cases h : p < Sh.pl names.length ns k
    · have e : Sh.below names.length ns k p = (k, k) := if_pos h
      rw [e] at q
      rw [decide_eq_true (show (p : Int) < (Sh.pl names.length ns k : Nat) by omega)]
      exact iteT ⟨line_ge (by simp), fun t nt => q _ t (Same.new nt) upd_same⟩
    · rw [decide_eq_false (show ¬ (p : Int) < (Sh.pl names.length ns k : Nat) by omega)]
      have h2 : 2 ≤ k := by
        by_cases h2 : k < 2
        · rw [Sh.pl_low h2] at h; omega
        · omega
      obtain ⟨p', l, g, e⟩ := Sh.at_some h2 hk
      have e2 : Sh.below names.length ns k p = (l, g) := by unfold Sh.below; rw [if_neg h, e]
      rw [e2] at q
      obtain ⟨vs, t, h1, h3, h4, h5⟩ := s.at h2 e
      refine iteF ⟨_, rfl, x, _, dx, _, _, rfl, s.ob, T.c_Sheet.cl, T.n_nodes, lkS2, ln, vs, _, .ref t, rfl, rfl, SqL.of h1, h3, ?_⟩
      exact ⟨t, _, rfl, SqT.of h4, by show ¬ (HT.sIx 3 0 (some 1) = 0 ∧ HT.sIx 3 3 none = 3); decide, fun t2 nt => q _ t2 (Same.new nt) upd_same⟩
def spSJoin (cs : Addr) (xc : Xc) (f : Nat) : Sp := fun vs H Q E => ∃ (x dx tn ln dn kd : Addr) (names : List Str) (ns ns' : List Sh.Nd) (kn kn' : Sh.Kn) (kvs : List (List Key × V)) (a c stop r : Nat), vs = [.ref x, .int a, .int c, .int stop, .ref kd] ∧ stop < 2 ∧
  ShO cs H x dx tn ln dn names ns ∧ Sh.Wf names.length ns ∧ Sh.KnOk names.length stop ns kn ∧ H kd = some (.dT kvs) ∧ KnV kvs kn ∧ kd ≠ dn ∧ a < ns.length + 2 ∧ c < ns.length + 2 ∧ names.length < f + min (Sh.pl names.length ns a) (Sh.pl names.length ns c) ∧
  Sh.join names.length stop f ns kn a c = some (r, ns', kn') ∧
  (ns'.length ≤ 2000 → ∀ H' kvs', K3 ln dn kd H H' → ShO cs H' x dx tn ln dn names ns' → H' kd = some (.dT kvs') → KnV kvs' kn' → Q (.int r) H') ∧
  (2000 < ns'.length → ∀ H', K3 ln dn kd H H' → ShO cs H' x dx tn ln dn names (ns'.take 2000) → E (.ref xc.many) none H')
theorem ok_sjoin (T : TSheet K mg xc cs) {f k : Nat} (GX_joined : DispAt P w K mg base (L2.CX P w) (fun C => C = cs) "joined" k ["self", "one", "other", "stop", "known"] (fun _ => spSJoin cs xc f)) (hk : 3 ≤ k) :
    DispAt P w K mg base (L2.CX P w) (fun C => C = cs) "joined" (k + 1) ["self", "one", "other", "stop", "known"] (fun _ => spSJoin cs xc (f + 1)) := by
  have G_place : DispAt P w K mg base CX0 (fun C => C = cs) "place" 1 ["self", "node"] (fun _ => spPlace cs) := disp_place T
  have G_below : DispAt P w K mg base CX0 (fun C => C = cs) "below" 2 ["self", "node", "place"] (fun _ => spBelow cs) := disp_below T
  have GX_made : DispAt P w K mg base (L2.CX P w) (fun C => C = cs) "made" 1 ["self", "place", "low", "high"] (fun _ => spMade cs xc) := disp_made T
  refine ⟨fun C hC => ?_⟩
  subst hC
  refine methAt_okX T.c_Sheet.cl T.m_joined sc_Sheet_joined (fun vs H Q E h => ?_) (fun fa cdv A outer st H vs Q E hr h => ?_)
  · obtain ⟨x, dx, tn, ln, dn, kd, names, ns, ns', kn, kn', kvs, a, c, stop, r, rfl, _⟩ := h; rfl
  · obtain ⟨x, dx, tn, ln, dn, kd, names, ns, ns', kn, kn', kvs, a, c, stop, r, rfl, hs, s, wf, hkn, hkd, kv, nkd, ha, hc, hf, hj, q, qx⟩ := h
    have hu := hu_of hr
    refine ⟨_, (pss_cons (ps_if (PW.pt (pw_or (pt_cmpR op_eq (pv 1) (pv 3) (nomark _)) (pw_or1 (pt_cmpR op_eq (pv 2) (pv 3) (nomark _))))) (pss_one (ps_ret (pv 3))) pss_nil)
        (pss_cons (ps_if (PW.pt (pw_or (pt_cmpR op_eq (pv 1) (pe_op op_sub pe_int (pv 3)) (nomark _)) (pw_or1 (pt_cmpR op_eq (pv 1) (pv 2) (nomark _))))) (pss_one (ps_ret (pv 2))) pss_nil)
        (pss_cons (ps_if (pt_cmpR op_eq (pv 2) (pe_op op_sub pe_int (pv 3)) (nomark _)) (pss_one (ps_ret (pv 1))) pss_nil)
        (C8.pss_cut (ps_if (pt_cmp (pc_dnotin hu (pe_tup (pa_cons (pv 1) (pa_cons (pv 2) pa_nil))) (pv 4))) (pss_cons (ps_set (i := 5) sc_Sheet_joined.nd rfl (by first | exact Or.inl rfl | exact Or.inr rfl) (pe_callB (call_min2 rfl) (by rfl) T.z_min (by decide +kernel) (pa_cons (pe_methD G_place hr pass0 (pv 0) (pa_cons (pv 1) pa_nil) (by omega)) (pa_cons (pe_methD G_place hr pass0 (pv 0) (pa_cons (pv 2) pa_nil) (by omega)) pa_nil))))
          (pss_cons (ps_set (i := 6) sc_Sheet_joined.nd rfl (by first | exact Or.inl rfl | exact Or.inr rfl) (pe_methD G_below hr pass0 (pv 0) (pa_cons (pv 1) (pa_cons (pv 5) pa_nil)) (by omega)))
          (pss_cons (ps_set (i := 7) sc_Sheet_joined.nd rfl (by first | exact Or.inl rfl | exact Or.inr rfl) (pe_methD G_below hr pass0 (pv 0) (pa_cons (pv 2) (pa_cons (pv 5) pa_nil)) (by omega)))
          (pss_cons (ps_set (i := 8) sc_Sheet_joined.nd rfl (by first | exact Or.inl rfl | exact Or.inr rfl) (pe_methD GX_joined hr (passX (L2.takes_of rfl rfl rfl rfl)) (pv 0) (pa_cons (pe_ix ix_tup (pv 6) pe_int (fun _ _ => rfl)) (pa_cons (pe_ix ix_tup (pv 7) pe_int (fun _ _ => rfl)) (pa_cons (pv 3) (pa_cons (pv 4) pa_nil)))) (Nat.le_refl _)))
          (pss_one (ps_dput hu (pv 4) (pe_tup (pa_cons (pv 1) (pa_cons (pv 2) pa_nil))) (pe_methD GX_made hr (passX (L2.takes_of rfl rfl rfl rfl)) (pv 0) (pa_cons (pv 5) (pa_cons (pv 8) (pa_cons (pe_methD GX_joined hr (passX (L2.takes_of rfl rfl rfl rfl)) (pv 0) (pa_cons (pe_ix ix_tup (pv 6) pe_int (fun _ _ => rfl)) (pa_cons (pe_ix ix_tup (pv 7) pe_int (fun _ _ => rfl)) (pa_cons (pv 3) (pa_cons (pv 4) pa_nil)))) (Nat.le_refl _)) pa_nil))) (by omega)) rfl)))))) pss_nil)
        (pss_one (ps_ret (pe_dget (by exact hu) (pv 4) (pe_tup (pa_cons (pv 1) (pa_cons (pv 2) pa_nil))) (fun _ _ => rfl)))))))), ?_⟩
    walk_at "rd"
    unfold Sh.join at hj
    by_cases e1 : a = stop
    · rw [if_pos (.inl e1)] at hj
      cases hj
      rw [decide_eq_true (show (a : Int) = (stop : Int) by omega)]
      exact iteT (q s.le H kvs (K3.refl H) s hkd kv)
    rw [decide_eq_false (show ¬ (a : Int) = (stop : Int) by omega)]
    refine iteF ?_
    by_cases e2 : c = stop
    · rw [if_pos (.inr e2)] at hj
      cases hj
      rw [decide_eq_true (show (c : Int) = (stop : Int) by omega)]
      exact iteT (q s.le H kvs (K3.refl H) s hkd kv)
    rw [decide_eq_false (show ¬ (c : Int) = (stop : Int) by omega)]
    refine iteF ?_
    rw [if_neg (fun z => z.elim e1 e2)] at hj
    by_cases e3 : a = 1 - stop
    · rw [if_pos (.inl e3)] at hj
      cases hj
      rw [decide_eq_true (show (a : Int) = 1 - (stop : Int) by omega)]
      exact iteT (q s.le H kvs (K3.refl H) s hkd kv)
    rw [decide_eq_false (show ¬ (a : Int) = 1 - (stop : Int) by omega)]
    refine iteF ?_
    by_cases e4 : a = c
    · rw [if_pos (.inr e4)] at hj
      cases hj
      rw [decide_eq_true (show (a : Int) = (c : Int) by omega)]
      exact iteT (q s.le H kvs (K3.refl H) s hkd kv)
    rw [decide_eq_false (show ¬ (a : Int) = (c : Int) by omega)]
    refine iteF ?_
    rw [if_neg (fun z => z.elim e3 e4)] at hj
    by_cases e5 : c = 1 - stop
    · rw [if_pos e5] at hj
      cases hj
      rw [decide_eq_true (show (c : Int) = 1 - (stop : Int) by omega)]
      exact iteT (q s.le H kvs (K3.refl H) s hkd kv)
    rw [decide_eq_false (show ¬ (c : Int) = 1 - (stop : Int) by omega)]
    refine iteF ?_
    rw [if_neg e5] at hj
    have hle := s.le
    refine ⟨fun σ' H' => ∃ (v5 v6 v7 v8 : Option V) (kvs' : List (List Key × V)), σ' = [some (.ref x), some (.int a), some (.int c), some (.int stop), some (.ref kd), v5, v6, v7, v8] ∧ K3 ln dn kd H H' ∧ ShO C H' x dx tn ln dn names ns' ∧ H' kd = some (.dT kvs') ∧ KnV kvs' kn' ∧ kn' a c = some r, ?_, ?_⟩
    · walk_at "rd"
      refine ⟨_, rfl, _, rfl, line_ge (by simp), fun p1 n1 => ?_⟩
      have s1 : Same H (upd H p1 (.tup [.int a, .int c])) := Same.new n1
      have hp1 : upd H p1 (.tup [.int a, .int c]) p1 = some (.tup [.int a, .int c]) := upd_same
      generalize upd H p1 (.tup [.int a, .int c]) = H1 at s1 hp1 ⊢
      refine ⟨_, rfl, kd, _, rfl, DGet.t (k := [.inl (a : Int), .inl (c : Int)]) (s1 _ _ hkd) hp1, ?_⟩
      rw [kv.get]
      cases hk2 : kn a c with
      | some r' =>
        rw [hk2] at hj
        cases hj
        exact ⟨false, rfl, iteF ⟨_, _, _, _, ⟨rfl, rfl, rfl, rfl⟩, Same.k3 s1, s.keep s1, kvs, s1 _ _ hkd, kv, hk2⟩⟩
      | none =>
        rw [hk2] at hj
        refine ⟨true, rfl, iteT ?_⟩
        have ha2 : 2 ≤ a := by omega
        have hc2 : 2 ≤ c := by omega
        have hpa := wf.pl_lt ha2 ha
        have hpc := wf.pl_lt hc2 hc
        have s0 := s.keep s1
        have hkd1 := s1 _ _ hkd
        refine ⟨_, rfl, x, C, dx, _, rfl, s0.ob, rfl, lkSn (by decide +kernel), _, rfl, x, dx, tn, ln, dn, names, ns, a, rfl, s0, ha, _, rfl, x, C, dx, _, rfl, s0.ob, rfl, lkSn (by decide +kernel), _, rfl, x, dx, tn, ln, dn, names, ns, c, rfl, s0, hc, _, _, ⟨rfl, rfl⟩, ?_⟩
        have hmin : (if ((Sh.pl names.length ns c : Nat) : Int) < (Sh.pl names.length ns a : Nat) then ((Sh.pl names.length ns c : Nat) : Int) else (Sh.pl names.length ns a : Nat)) = ((min (Sh.pl names.length ns a) (Sh.pl names.length ns c) : Nat) : Int) := by split <;> omega
        rw [hmin]
        clear hmin
        generalize hp : min (Sh.pl names.length ns a) (Sh.pl names.length ns c) = p at *
        have hpn : p < names.length := by omega
        obtain ⟨a1, a2, a3, a4, _⟩ := wf.below (p := p) ha (by omega) hpn
        obtain ⟨d1, d2, d3, d4, _⟩ := wf.below (p := p) hc (by omega) hpn
        refine ⟨_, rfl, x, C, dx, _, rfl, s0.ob, rfl, lkSn (by decide +kernel), _, rfl, _, rfl, x, dx, tn, ln, dn, names, ns, a, p, rfl, s0, ha, hpn, fun H2 t2 s2 ht2 => ?_⟩
        have s02 := s0.keep s2
        refine ⟨_, rfl, x, C, dx, _, rfl, s02.ob, rfl, lkSn (by decide +kernel), _, rfl, _, rfl, x, dx, tn, ln, dn, names, ns, c, p, rfl, s02, hc, hpn, fun H3 t3 s3 ht3 => ?_⟩
        have s03 := s02.keep s3
        have ht2 := s3 _ _ ht2
        have hkd3 := s3 _ _ (s2 _ _ hkd1)
        have k03 : Same H H3 := (s1.trans s2).trans s3
        generalize Sh.below names.length ns a p = A at *
        generalize Sh.below names.length ns c p = D at *
        obtain ⟨l, m1, kn1, e1', w1, k1, l1, l2, l3, l4, l5⟩ := Sh.Wf.join hs f ns kn A.1 D.1 wf hkn a1 d1 (by omega)
        have A2 : A.2 < (ns ++ m1).length + 2 := by rw [List.length_append]; omega
        have D2 : D.2 < (ns ++ m1).length + 2 := by rw [List.length_append]; omega
        obtain ⟨h, m2, kn2, e2', w2, k2, g1, g2, g3, g4, g5⟩ := Sh.Wf.join hs f (ns ++ m1) kn1 A.2 D.2 w1 k1 A2 D2 (by rw [Sh.pl_app a2, Sh.pl_app d2]; omega)
        have L2' : l < (ns ++ m1 ++ m2).length + 2 := by rw [List.length_append]; omega
        have pL : Sh.pl names.length (ns ++ m1 ++ m2) l = Sh.pl names.length (ns ++ m1) l := Sh.pl_app l1
        rw [Sh.pl_app a2, Sh.pl_app d2] at g3
        obtain ⟨r3, m3, e3', w3, r1, r2, r3', r4, r5⟩ := w2.made (p := p) (l := l) (h := h) hpn L2' g1 (by omega) (by omega)
        rw [e1'] at hj
        dsimp only at hj
        rw [e2'] at hj
        dsimp only at hj
        rw [e3'] at hj
        cases hj
        have up1 : 2000 < (ns ++ m1).length → ∀ H', K3 ln dn kd H3 H' → ShO C H' x dx tn ln dn names ((ns ++ m1).take 2000) → E (.ref xc.many) none H' := fun g H' k s => by
          refine qx (by simp only [List.length_append] at g ⊢; omega) H' (K3.trans (Same.k3 k03) k) ?_
          rw [List.append_assoc _ m2, List.take_append_of_le_length (by omega)]
          exact s
        have up2 : 2000 < (ns ++ m1 ++ m2).length → ∀ H', K3 ln dn kd H3 H' → ShO C H' x dx tn ln dn names ((ns ++ m1 ++ m2).take 2000) → E (.ref xc.many) none H' := fun g H' k s => by
          refine qx (by simp only [List.length_append] at g ⊢; omega) H' (K3.trans (Same.k3 k03) k) ?_
          rw [List.take_append_of_le_length (by omega)]
          exact s
        refine ⟨_, rfl, x, C, dx, _, rfl, s03.ob, rfl, lkSn (by decide +kernel), _, rfl, t2, _, 0, _, rfl, rfl, SqT.of ht2, rfl, _, rfl, t3, _, 0, _, rfl, rfl, SqT.of ht3, rfl, _, rfl, _, rfl, x, dx, tn, ln, dn, kd, names, ns, ns ++ m1, kn, kn1, kvs, A.1, D.1, stop, l, rfl, hs, s03, wf, hkn, hkd3, kv, nkd, a1, d1, by omega, e1', fun hle1 H4 kvs4 k4 s4 hkd4 kv4 => ?_, up1⟩
        refine ⟨_, rfl, x, C, dx, _, rfl, s4.ob, rfl, lkSn (by decide +kernel), _, rfl, _, rfl, _, rfl, x, C, dx, _, rfl, s4.ob, rfl, lkSn (by decide +kernel), _, rfl, t2, _, 1, _, rfl, rfl, SqT.of (k4.tup s03 hkd3 ht2), rfl, _, rfl, t3, _, 1, _, rfl, rfl, SqT.of (k4.tup s03 hkd3 ht3), rfl, _, rfl, _, rfl,
          x, dx, tn, ln, dn, kd, names, ns ++ m1, ns ++ m1 ++ m2, kn1, kn2, kvs4, A.2, D.2, stop, h, rfl, hs, s4, w1, k1, hkd4, kv4, nkd, A2, D2, by rw [Sh.pl_app a2, Sh.pl_app d2]; omega, e2', fun hle2 H5 kvs5 k5 s5 hkd5 kv5 => ?_, fun g H' k s => up2 g H' (K3.trans k4 k) s⟩
        have k35 := K3.trans k4 k5
        have m3l : m3.length ≤ 1 := by
          rcases r4 with ⟨rfl, _⟩ | ⟨z, _⟩
          · simp
          · omega
        refine ⟨x, dx, tn, ln, dn, names, ns ++ m1 ++ m2, p, l, h, rfl, s5, fun hle3 H6 k6 s6 => ?_, fun g H' sm => ?_⟩
        · rw [e3'] at hle3 s6 ⊢
          have hkd6 := k6 _ _ hkd5 (s5.n_ln hkd5 fun _ e => by cases e) nkd nkd
          have k36 : K3 ln dn kd H3 H6 := K3.trans k35 (K3.more k6)
          refine ⟨_, rfl, _, rfl, _, rfl, line_ge (by simp), fun p7 n7 => ?_⟩
          have s7 : Same H6 (upd H6 p7 (.tup [.int a, .int c])) := Same.new n7
          have hp7 : upd H6 p7 (.tup [.int a, .int c]) p7 = some (.tup [.int a, .int c]) := upd_same
          show ∃ _ _, _ ∧ DPut (upd H6 p7 (.tup [.int a, .int c])) _ _ _ _ ∧ _
          generalize upd H6 p7 (.tup [.int a, .int c]) = H7 at s7 hp7 ⊢
          have s67 := s6.keep s7
          have hkd7 := s7 _ _ hkd6
          have kvl := kv5.len
          have ka : a < 2002 := by omega
          have kc : c < 2002 := by omega
          refine ⟨kd, _, rfl, DPut.t (k := [.inl (a : Int), .inl (c : Int)]) hkd7 hp7 (by rw [sizeLine_eq]; omega), _, _, _, _, rfl, ?_, ?_, _, upd_same, kv5.put ka kc, if_pos ⟨rfl, rfl⟩⟩
          · exact K3.trans (Same.k3 k03) (K3.trans k36 (K3.trans (Same.k3 s7) K3.uc))
          · exact s67.far K3.ua hkd7 (fun _ _ _ e => by cases e) (fun _ e => by cases e) (fun _ _ e => by cases e) (s67.n_ln hkd7 fun _ e => by cases e) nkd
        · rw [e3'] at g
          have hle := s5.le
          simp only [List.length_append] at g hle
          refine qx (by simp only [List.length_append]; omega) H' (K3.trans (Same.k3 k03) (K3.trans k35 (Same.k3 sm))) ?_
          rw [List.take_append_of_le_length (by simp only [List.length_append]; omega), List.take_of_length_le (by simp only [List.length_append]; omega)]
          exact s5.keep sm
    · rintro σ' H' ⟨v5, v6, v7, v8, kvs', rfl, k3, s3, hkd3, kv3, hr3⟩
      walk_at "rd"
      refine ⟨_, rfl, _, rfl, _, rfl, line_ge (by simp), fun p1 n1 => ?_⟩
      have s4 : Same H' (upd H' p1 (.tup [.int a, .int c])) := Same.new n1
      have hp1 : upd H' p1 (.tup [.int a, .int c]) p1 = some (.tup [.int a, .int c]) := upd_same
      have g := DGet.t (k := [.inl (a : Int), .inl (c : Int)]) (s4 _ _ hkd3) hp1
      rw [kv3.get, hr3] at g
      exact ⟨kd, _, rfl, g, q s3.le _ kvs' (K3.trans k3 (Same.k3 s4)) (s3.keep s4) (s4 _ _ hkd3) kv3⟩
end

--%% M5
/-! ## sheets: the opposite -/
abbrev s_Sheet_opposite : Stmt := inClass (top 33) 6
theorem sc_Sheet_opposite : FnScope ["self", "node", "known", "place", "low", "high"] ["self", "node", "known"] (defScope s_Sheet_opposite) := ⟨rfl, rfl, rfl, by decide +kernel, rfl, by decide +kernel, by decide +kernel⟩
structure TOpp (K : PySem.W.Frag) (mg : Str → Option Value) (xc : Xc) (cs : Addr) : Prop where
  sh : TSheet K mg xc cs
  m_opposite : MethAt K cs "opposite" "Sheet.opposite" s_Sheet_opposite ["self", "node", "known"]
/-- a dict of nodes: what is known -/
structure Kn1V (kvs : List (Key × V)) (kn : Sh.Kn1) : Prop where
  get : ∀ a : Nat, valV kvs (.inl (a : Int)) = (kn a).map fun r : Nat => V.int r
  nd : (kvs.map (·.1)).Nodup
  sm : ∀ k ∈ kvs.map (·.1), ∃ a : Nat, k = .inl (a : Int) ∧ a < 2002
theorem Kn1V.nil : Kn1V [] fun _ => none := ⟨fun _ => rfl, List.nodup_nil, fun _ h => by cases h⟩
theorem Kn1V.len {kvs : List (Key × V)} {kn : Sh.Kn1} (h : Kn1V kvs kn) : kvs.length ≤ 2002 := by
  have key : ∀ l : List Key, l.Nodup → (∀ k ∈ l, ∃ a : Nat, k = .inl (a : Int) ∧ a < 2002) → ∃ m : List Nat, m.length = l.length ∧ m.Nodup ∧ (∀ x ∈ m, x < 2002) ∧ ∀ x ∈ m, (.inl (x : Int) : Key) ∈ l := by
    intro l
    induction l with
    | nil => intro _ _; exact ⟨[], rfl, List.nodup_nil, (fun _ h => nomatch h), (fun _ h => nomatch h)⟩
    | cons k l ih =>
      intro nd hs
      obtain ⟨n1, n2⟩ := List.nodup_cons.mp nd
      obtain ⟨m, e1, e2, e3, e4⟩ := ih n2 fun k hk => hs k (List.mem_cons_of_mem _ hk)
      obtain ⟨a, rfl, ha⟩ := hs k List.mem_cons_self
      refine ⟨a :: m, by simp [e1], List.nodup_cons.mpr ⟨fun hm => n1 (e4 _ hm), e2⟩, fun x hx => ?_, fun x hx => ?_⟩
      · rcases List.mem_cons.mp hx with rfl | hx
        · exact ha
        · exact e3 x hx
      · rcases List.mem_cons.mp hx with rfl | hx
        · exact List.mem_cons_self
        · exact List.mem_cons_of_mem _ (e4 x hx)
  obtain ⟨m, e1, e2, e3, _⟩ := key _ h.nd h.sm
  rw [List.length_map] at e1
  rw [← e1]
  exact nodup_lt _ m e2 e3
theorem Kn1V.put {kvs : List (Key × V)} {kn : Sh.Kn1} (h : Kn1V kvs kn) {a r : Nat} (ha : a < 2002) : Kn1V (putK kvs (.inl (a : Int)) (.int r)) (Sh.kput1 kn a r) := by
  have keys : ∀ k, k ∈ (putK kvs (.inl (a : Int)) (V.int r)).map (·.1) → k ∈ kvs.map (·.1) ∨ k = .inl (a : Int) := fun k hk => by
    unfold putK at hk
    split at hk
    · rw [List.map_map] at hk
      obtain ⟨p, hp, rfl⟩ := List.mem_map.mp hk
      left
      refine List.mem_map.mpr ⟨p, hp, ?_⟩
      simp only [Function.comp]
      split <;> rfl
    · rw [List.map_append, List.mem_append] at hk
      rcases hk with hk | hk
      · exact .inl hk
      · exact .inr (List.mem_singleton.mp hk)
  refine ⟨fun x => ?_, ?_, fun k hk => ?_⟩
  · rw [valV_put]
    unfold Sh.kput1
    by_cases e : x = a
    · subst e
      rw [if_pos rfl, if_pos rfl]
      rfl
    · rw [if_neg e, if_neg, h.get]
      intro q
      simp only [Sum.inl.injEq] at q
      omega
  · unfold putK
    split
    · rw [List.map_map]
      have : (((fun kv : Key × V => kv.1) ∘ fun kv : Key × V => if kv.1 = .inl (a : Int) then (kv.1, V.int r) else kv) = fun kv => kv.1) := by
        funext kv
        simp only [Function.comp]
        split <;> rfl
      rw [this]
      exact h.nd
    · rename_i hn
      rw [List.map_append, List.nodup_append]
      refine ⟨h.nd, by simp, fun x hx y hy e => hn ?_⟩
      obtain ⟨p, hp, rfl⟩ := List.mem_map.mp hx
      rw [List.any_eq_true]
      exact ⟨p, hp, decide_eq_true (e.trans (List.mem_singleton.mp hy))⟩
  · rcases keys k hk with hk | rfl
    · exact h.sm k hk
    · exact ⟨a, rfl, ha⟩
theorem K3.tupK {C x dx tn ln dn : Addr} {H H' : Hp} {names : List Str} {ns : List Sh.Nd} {c : Addr} {kvs : List (Key × V)} (k : K3 ln dn c H H') (s : ShO C H x dx tn ln dn names ns) (hc : H c = some (.dK kvs)) {q : Addr} {zs : List V} (e : H q = some (.tup zs)) : H' q = some (.tup zs) :=
  k q _ e (s.n_ln e fun _ e => by cases e) (s.n_dn e fun _ e => by cases e) (fun z => by rw [z, hc] at e; cases e)
section
variable {P : Program} {w : World} {K : PySem.W.Frag} {mg : Str → Option Value} {base : Heap} {xc : Xc} {cs : Addr}
theorem disp_sjoin (T : TSheet K mg xc cs) : ∀ f : Nat, DispAt P w K mg base (L2.CX P w) (fun C => C = cs) "joined" (f + 3) ["self", "one", "other", "stop", "known"] (fun _ => spSJoin cs xc f)
  | 0 => by
    refine ⟨fun C hC => ?_⟩
    subst hC
    refine methAt_okX T.c_Sheet.cl T.m_joined sc_Sheet_joined (fun vs H Q E h => ?_) (fun fa cdv A outer st H vs Q E hr h => ?_)
    · obtain ⟨x, dx, tn, ln, dn, kd, names, ns, ns', kn, kn', kvs, a, c, stop, r, rfl, _⟩ := h; rfl
    · obtain ⟨x, dx, tn, ln, dn, kd, names, ns, ns', kn, kn', kvs, a, c, stop, r, rfl, hs, s, wf, hkn, hkd, kv, nkd, ha, hc, hf, hj, q, qx⟩ := h
      exact nomatch hj
  | f + 1 => ok_sjoin T (disp_sjoin T f) (by omega)
def spOpp (cs : Addr) (xc : Xc) (f : Nat) : Sp := fun vs H Q E => ∃ (x dx tn ln dn kd : Addr) (names : List Str) (ns ns' : List Sh.Nd) (kn kn' : Sh.Kn1) (kvs : List (Key × V)) (a r : Nat), vs = [.ref x, .int a, .ref kd] ∧
  ShO cs H x dx tn ln dn names ns ∧ Sh.Wf names.length ns ∧ Sh.Kn1Ok names.length ns kn ∧ H kd = some (.dK kvs) ∧ Kn1V kvs kn ∧ a < ns.length + 2 ∧ names.length < f + Sh.pl names.length ns a ∧
  Sh.opp f ns kn a = some (r, ns', kn') ∧
  (ns'.length ≤ 2000 → ∀ H' kvs', K3 ln dn kd H H' → ShO cs H' x dx tn ln dn names ns' → H' kd = some (.dK kvs') → Kn1V kvs' kn' → Q (.int r) H') ∧
  (2000 < ns'.length → ∀ H', K3 ln dn kd H H' → ShO cs H' x dx tn ln dn names (ns'.take 2000) → E (.ref xc.many) none H')
theorem ok_opp (T : TOpp K mg xc cs) {f k : Nat} (GX_opposite : DispAt P w K mg base (L2.CX P w) (fun C => C = cs) "opposite" k ["self", "node", "known"] (fun _ => spOpp cs xc f)) (hk : 3 ≤ k) :
    DispAt P w K mg base (L2.CX P w) (fun C => C = cs) "opposite" (k + 1) ["self", "node", "known"] (fun _ => spOpp cs xc (f + 1)) := by
  have GX_made : DispAt P w K mg base (L2.CX P w) (fun C => C = cs) "made" 1 ["self", "place", "low", "high"] (fun _ => spMade cs xc) := disp_made T.sh
  have T := T
  refine ⟨fun C hC => ?_⟩
  subst hC
  refine methAt_okX T.sh.c_Sheet.cl T.m_opposite sc_Sheet_opposite (fun vs H Q E h => ?_) (fun fa cdv A outer st H vs Q E hr h => ?_)
  · obtain ⟨x, dx, tn, ln, dn, kd, names, ns, ns', kn, kn', kvs, a, r, rfl, _⟩ := h; rfl
  · obtain ⟨x, dx, tn, ln, dn, kd, names, ns, ns', kn, kn', kvs, a, r, rfl, s, wf, hkn, hkd, kv, ha, hf, hj, q, qx⟩ := h
    have hu := hu_of hr
    refine ⟨_, (pss_cons (ps_if (pt_cmpR op_lt (pv 1) pe_int (nomark _)) (pss_one (ps_ret (pe_op op_sub pe_int (pv 1)))) pss_nil)
        (C8.pss_cut (ps_if (pt_cmp (pc_dnotin hu (pv 1) (pv 2))) (pss_cons (ps_asg (pe_ix ix_list (pe_fld (pv 0) rfl) (pe_op op_sub (pv 1) pe_int) (fun _ _ => rfl)) (pg_tup rfl (pgs_cons (pg_name (i := 3) sc_Sheet_opposite.nd rfl (by first | exact Or.inl rfl | exact Or.inr rfl)) (pgs_cons (pg_name (i := 4) sc_Sheet_opposite.nd rfl (by first | exact Or.inl rfl | exact Or.inr rfl)) (pgs_cons (pg_name (i := 5) sc_Sheet_opposite.nd rfl (by first | exact Or.inl rfl | exact Or.inr rfl)) pgs_nil)))))
          (pss_one (ps_dput hu (pv 2) (pv 1) (pe_methD GX_made hr (passX (L2.takes_of rfl rfl rfl rfl)) (pv 0) (pa_cons (pv 3) (pa_cons (pe_methD GX_opposite hr (passX (L2.takes_of rfl rfl rfl rfl)) (pv 0) (pa_cons (pv 4) (pa_cons (pv 2) pa_nil)) (Nat.le_refl _)) (pa_cons (pe_methD GX_opposite hr (passX (L2.takes_of rfl rfl rfl rfl)) (pv 0) (pa_cons (pv 5) (pa_cons (pv 2) pa_nil)) (Nat.le_refl _)) pa_nil))) (by omega)) rfl))) pss_nil)
        (pss_one (ps_ret (pe_dget (by exact hu) (pv 2) (pv 1) (fun _ _ => rfl)))))), ?_⟩
    walk_at "rd"
    unfold Sh.opp at hj
    by_cases e1 : a < 2
    · rw [if_pos e1] at hj
      cases hj
      rw [decide_eq_true (show (a : Int) < 2 by omega)]
      refine iteT ?_
      have e : (1 : Int) - (a : Int) = ((1 - a : Nat) : Int) := by omega
      rw [e]
      exact q s.le H kvs (K3.refl H) s hkd kv
    rw [decide_eq_false (show ¬ (a : Int) < 2 by omega)]
    refine iteF ?_
    rw [if_neg e1] at hj
    have hle := s.le
    refine ⟨fun σ' H' => ∃ (v5 v6 v7 : Option V) (kvs' : List (Key × V)), σ' = [some (.ref x), some (.int a), some (.ref kd), v5, v6, v7] ∧ K3 ln dn kd H H' ∧ ShO C H' x dx tn ln dn names ns' ∧ H' kd = some (.dK kvs') ∧ Kn1V kvs' kn' ∧ kn' a = some r, ?_, ?_⟩
    · walk_at "rd"
      refine ⟨_, rfl, _, rfl, kd, _, rfl, DGet.k (k := .inl (a : Int)) hkd, ?_⟩
      rw [kv.get]
      cases hk2 : kn a with
      | some r' =>
        rw [hk2] at hj
        cases hj
        exact ⟨false, rfl, iteF ⟨_, _, _, ⟨rfl, rfl, rfl⟩, K3.refl H, s, kvs, hkd, kv, hk2⟩⟩
      | none =>
        rw [hk2] at hj
        refine ⟨true, rfl, iteT ?_⟩
        have ha2 : 2 ≤ a := by omega
        obtain ⟨p, lo, hi, e⟩ := Sh.at_some ha2 ha
        obtain ⟨hpn, hlh, hlo, hhi, plo, phi⟩ := wf.kids ha2 e
        have ep := Sh.pl_at (n := names.length) ha2 e
        rw [ep] at hf
        obtain ⟨vs, t, h1, h3, h4, h5⟩ := s.at ha2 e
        dsimp only at hj
        rw [e] at hj
        obtain ⟨l, m1, kn1, e1', w1, k1, l1, l2, l3, l4, l5⟩ := Sh.Wf.opp (n := names.length) f ns kn lo wf hkn (by omega) (by omega)
        have H2' : hi < (ns ++ m1).length + 2 := by rw [List.length_append]; omega
        obtain ⟨h, m2, kn2, e2', w2, k2, g1, g2, g3, g4, g5⟩ := Sh.Wf.opp (n := names.length) f (ns ++ m1) kn1 hi w1 k1 H2' (by rw [Sh.pl_app (by omega)]; omega)
        rw [Sh.pl_app (by omega)] at g3
        have L2' : l < (ns ++ m1 ++ m2).length + 2 := by rw [List.length_append]; omega
        have pL : Sh.pl names.length (ns ++ m1 ++ m2) l = Sh.pl names.length (ns ++ m1) l := Sh.pl_app l1
        obtain ⟨r3, m3, e3', w3, r1, r2, r3', r4, r5⟩ := w2.made (p := p) (l := l) (h := h) hpn L2' g1 (by omega) (by omega)
        dsimp only at hj
        rw [e1'] at hj
        dsimp only at hj
        rw [e2'] at hj
        dsimp only at hj
        rw [e3'] at hj
        cases hj
        have up1 : 2000 < (ns ++ m1).length → ∀ H', K3 ln dn kd H H' → ShO C H' x dx tn ln dn names ((ns ++ m1).take 2000) → E (.ref xc.many) none H' := fun g H' k s => by
          refine qx (by simp only [List.length_append] at g ⊢; omega) H' k ?_
          rw [List.append_assoc _ m2, List.take_append_of_le_length (by omega)]
          exact s
        have up2 : 2000 < (ns ++ m1 ++ m2).length → ∀ H', K3 ln dn kd H H' → ShO C H' x dx tn ln dn names ((ns ++ m1 ++ m2).take 2000) → E (.ref xc.many) none H' := fun g H' k s => by
          refine qx (by simp only [List.length_append] at g ⊢; omega) H' k ?_
          rw [List.take_append_of_le_length (by omega)]
          exact s
        refine ⟨_, rfl, x, _, dx, _, _, rfl, s.ob, T.sh.c_Sheet.cl, T.sh.n_nodes, lkS2, ln, vs, _, .ref t, rfl, rfl, SqL.of h1, h3, t, [.int p, .int lo, .int hi], rfl, SqT.of h4, rfl, ?_⟩
        walk_at "rd"
        refine ⟨_, rfl, x, C, dx, _, rfl, s.ob, rfl, lkSn (by decide +kernel), _, rfl, _, rfl, x, C, dx, _, rfl, s.ob, rfl, lkSn (by decide +kernel), _, rfl, _, rfl,
          x, dx, tn, ln, dn, kd, names, ns, ns ++ m1, kn, kn1, kvs, lo, l, rfl, s, wf, hkn, hkd, kv, by omega, by omega, e1', fun hle1 H4 kvs4 k4 s4 hkd4 kv4 => ?_, up1⟩
        refine ⟨_, rfl, x, C, dx, _, rfl, s4.ob, rfl, lkSn (by decide +kernel), _, rfl, _, rfl,
          x, dx, tn, ln, dn, kd, names, ns ++ m1, ns ++ m1 ++ m2, kn1, kn2, kvs4, hi, h, rfl, s4, w1, k1, hkd4, kv4, H2', by rw [Sh.pl_app (by omega)]; omega, e2', fun hle2 H5 kvs5 k5 s5 hkd5 kv5 => ?_, fun g H' k s => up2 g H' (K3.trans k4 k) s⟩
        have k05 := K3.trans k4 k5
        have m3l : m3.length ≤ 1 := by
          rcases r4 with ⟨rfl, _⟩ | ⟨z, _⟩
          · simp
          · omega
        refine ⟨x, dx, tn, ln, dn, names, ns ++ m1 ++ m2, p, l, h, rfl, s5, fun hle3 H6 k6 s6 => ?_, fun g H' sm => ?_⟩
        · rw [e3'] at hle3 s6 ⊢
          have nkd : kd ≠ dn := s5.n_dn hkd5 fun _ e => by cases e
          have hkd6 := k6 _ _ hkd5 (s5.n_ln hkd5 fun _ e => by cases e) nkd nkd
          have k06 : K3 ln dn kd H H6 := K3.trans k05 (K3.more k6)
          have kvl := kv5.len
          have ka : a < 2002 := by omega
          refine ⟨_, rfl, _, rfl, kd, _, rfl, DPut.k (k := .inl (a : Int)) hkd6 (by rw [sizeLine_eq]; omega), _, _, _, rfl, ?_, ?_, _, upd_same, kv5.put ka, if_pos rfl⟩
          · exact K3.trans k06 K3.uc
          · exact s6.far K3.ua hkd6 (fun _ _ _ e => by cases e) (fun _ e => by cases e) (fun _ _ e => by cases e) (s6.n_ln hkd6 fun _ e => by cases e) nkd
        · rw [e3'] at g
          have hle := s5.le
          simp only [List.length_append] at g hle
          refine qx (by simp only [List.length_append]; omega) H' (K3.trans k05 (Same.k3 sm)) ?_
          rw [List.take_append_of_le_length (by simp only [List.length_append]; omega), List.take_of_length_le (by simp only [List.length_append]; omega)]
          exact s5.keep sm
    · rintro σ' H' ⟨v5, v6, v7, kvs', rfl, k3, s3, hkd3, kv3, hr3⟩
      have g := DGet.k (k := .inl (a : Int)) hkd3
      rw [kv3.get, hr3] at g
      exact ⟨_, rfl, _, rfl, kd, _, rfl, g, q s3.le _ kvs' k3 s3 hkd3 kv3⟩
theorem disp_opp (T : TOpp K mg xc cs) : ∀ f : Nat, DispAt P w K mg base (L2.CX P w) (fun C => C = cs) "opposite" (f + 3) ["self", "node", "known"] (fun _ => spOpp cs xc f)
  | 0 => by
    refine ⟨fun C hC => ?_⟩
    subst hC
    refine methAt_okX T.sh.c_Sheet.cl T.m_opposite sc_Sheet_opposite (fun vs H Q E h => ?_) (fun fa cdv A outer st H vs Q E hr h => ?_)
    · obtain ⟨x, dx, tn, ln, dn, kd, names, ns, ns', kn, kn', kvs, a, r, rfl, _⟩ := h; rfl
    · obtain ⟨x, dx, tn, ln, dn, kd, names, ns, ns', kn, kn', kvs, a, r, rfl, s, wf, hkn, hkd, kv, ha, hf, hj, q, qx⟩ := h
      exact nomatch hj
  | f + 1 => ok_opp T (disp_opp T f) (by omega)
end

--%% M6
/-! ## sheets: what is drawn of a condition -/
def ixOf : List Str → Str → Nat
  | [], _ => 0
  | x :: r, n => if x = n then 0 else ixOf r n + 1
theorem ixOf_at : ∀ {l : List Str} {n : Str}, n ∈ l → l[ixOf l n]? = some n ∧ ∀ m, m < ixOf l n → l[m]? ≠ some n
  | x :: r, n, h => by
    unfold ixOf
    by_cases e : x = n
    · rw [if_pos e]
      exact ⟨by simp [e], fun m hm => by omega⟩
    · rw [if_neg e]
      have h' : n ∈ r := by
        rcases List.mem_cons.mp h with q | q
        · exact absurd q.symm e
        · exact q
      obtain ⟨h1, h2⟩ := ixOf_at h'
      refine ⟨by simpa using h1, fun m hm => ?_⟩
      cases m with
      | zero => simpa using e
      | succ m => simpa using h2 m (by omega)
theorem ixOf_lt {l : List Str} {n : Str} (h : n ∈ l) : ixOf l n < l.length := (List.getElem?_eq_some_iff.mp (ixOf_at h).1).1
mutual
/-- all its contacts are of these names -/
def Cond.within (l : List Str) : Cond → Bool
  | .fixed _ => true
  | .contact n => decide (n ∈ l)
  | .not c => c.within l
  | .grp _ cs => Cond.withins l cs
def Cond.withins (l : List Str) : List Cond → Bool
  | [] => true
  | c :: cs => c.within l && Cond.withins l cs
end
theorem Cond.withins_mem {l : List Str} : ∀ {cs : List Cond} {c : Cond}, Cond.withins l cs = true → c ∈ cs → c.within l = true
  | x :: cs, c, h, m => by
    rw [Cond.withins, Bool.and_eq_true] at h
    rcases List.mem_cons.mp m with rfl | m
    · exact h.1
    · exact Cond.withins_mem h.2 m
def stopOf (s : Bool) : Nat := if s then 0 else 1
theorem stopOf_lt (s : Bool) : stopOf s < 2 := by cases s <;> decide
mutual
def draw (l : List Str) : Cond → List Sh.Nd → Option (Nat × List Sh.Nd)
  | .fixed b, ns => some (if b then 1 else 0, ns)
  | .contact n, ns => some ((Sh.made ns (ixOf l n) 0 1).1, (Sh.made ns (ixOf l n) 0 1).2)
  | .not c, ns => match draw l c ns with
    | none => none
    | some (k, ns1) => match Sh.opp 61 ns1 (fun _ => none) k with
      | none => none
      | some (r, ns2, _) => some (r, ns2)
  | .grp s cs, ns => draws l (stopOf s) cs ns (1 - stopOf s)
def draws (l : List Str) (stop : Nat) : List Cond → List Sh.Nd → Nat → Option (Nat × List Sh.Nd)
  | [], ns, found => some (found, ns)
  | c :: cs, ns, found => match draw l c ns with
    | none => none
    | some (k, ns1) => match Sh.join l.length stop 61 ns1 (fun _ _ => none) found k with
      | none => none
      | some (r, ns2, _) => draws l stop cs ns2 r
end
/-- the image of a row -/
def imB (l : List Str) (b : Nat → Bool) : Im := fun n => b (ixOf l n)
/-- the fold of the parts -/
def foldB (stop : Nat) (f : Im) (cs : List Cond) (x : Bool) : Bool := cs.foldl (fun y c => Sh.op2 stop y (c.holds f)) x
theorem holds_grp (s : Bool) (cs : List Cond) (f : Im) : (Cond.grp s cs).holds f = foldB (stopOf s) f cs s := by
  have h1 : ∀ (cs : List Cond) (x : Bool), foldB 0 f cs x = (x && Cond.alls f cs) := by
    intro cs
    induction cs with
    | nil => intro x; simp [foldB, Cond.alls]
    | cons c cs ih =>
      intro x
      have := ih (Sh.op2 0 x (c.holds f))
      unfold foldB at this ⊢
      rw [List.foldl_cons, this, Cond.alls]
      simp [Sh.op2, Bool.and_assoc]
  have h2 : ∀ (cs : List Cond) (x : Bool), foldB 1 f cs x = (x || Cond.anys f cs) := by
    intro cs
    induction cs with
    | nil => intro x; simp [foldB, Cond.anys]
    | cons c cs ih =>
      intro x
      have := ih (Sh.op2 1 x (c.holds f))
      unfold foldB at this ⊢
      rw [List.foldl_cons, this, Cond.anys]
      simp [Sh.op2, Bool.or_assoc]
  cases s
  · rw [Cond.holds]
    exact ((h2 cs false).trans (Bool.false_or _)).symm
  · rw [Cond.holds]
    exact ((h1 cs true).trans (Bool.true_and _)).symm
mutual
/-- each group has a part -/
def Cond.cond2 : Cond → Bool
  | .fixed _ => true
  | .contact _ => true
  | .not c => c.cond2
  | .grp _ cs => decide (1 ≤ cs.length) && Cond.cond2s cs
def Cond.cond2s : List Cond → Bool
  | [] => true
  | c :: cs => c.cond2 && Cond.cond2s cs
end
mutual
/-- how many nodes at most: each joining and each opposite makes B -/
def Cond.cost (B : Nat) : Cond → Nat
  | .fixed _ => 0
  | .contact _ => 1
  | .not c => c.cost B + B
  | .grp _ cs => Cond.costs B cs + (cs.length - 1) * B
def Cond.costs (B : Nat) : List Cond → Nat
  | [] => 0
  | c :: cs => c.cost B + Cond.costs B cs
end
mutual
def Cond.wgt : Cond → Nat
  | .fixed _ => 1
  | .contact _ => 1
  | .not c => c.wgt + 1
  | .grp _ cs => Cond.wgts cs
def Cond.wgts : List Cond → Nat
  | [] => 0
  | c :: cs => c.wgt + Cond.wgts cs
end
mutual
theorem Cond.cost_wgt (B : Nat) : ∀ c : Cond, c.cond2 = true → c.cost B + B ≤ c.wgt * (B + 1)
  | .fixed _, _ => by simp [Cond.cost, Cond.wgt]
  | .contact _, _ => by simp [Cond.cost, Cond.wgt]; omega
  | .not c, h => by
    rw [Cond.cond2] at h
    have := Cond.cost_wgt B c h
    rw [Cond.cost, Cond.wgt, Nat.add_mul]
    omega
  | .grp _ cs, h => by
    rw [Cond.cond2, Bool.and_eq_true, decide_eq_true_eq] at h
    have := Cond.costs_wgt B cs h.2
    rw [Cond.cost, Cond.wgt]
    have e : (cs.length - 1) * B + B = cs.length * B := by
      have : cs.length = (cs.length - 1) + 1 := by omega
      rw [this, Nat.add_mul]
      simp
    omega
theorem Cond.costs_wgt (B : Nat) : ∀ cs : List Cond, Cond.cond2s cs = true → Cond.costs B cs + cs.length * B ≤ Cond.wgts cs * (B + 1)
  | [], _ => by simp [Cond.costs, Cond.wgts]
  | c :: cs, h => by
    rw [Cond.cond2s, Bool.and_eq_true] at h
    have h1 := Cond.cost_wgt B c h.1
    have h2 := Cond.costs_wgt B cs h.2
    rw [Cond.costs, Cond.wgts, List.length_cons, Nat.add_mul, Nat.add_mul]
    omega
end
/-- the law of drawing: what comes, and that it comes again where all is there -/
def DrawOk (l : List Str) (f : List Sh.Nd → Option (Nat × List Sh.Nd)) (g : (Nat → Bool) → Bool) (k : Nat) (ns : List Sh.Nd) : Prop :=
  ∃ r m, f ns = some (r, ns ++ m) ∧ Sh.Wf l.length (ns ++ m) ∧ r < (ns ++ m).length + 2 ∧ (∀ b, Sh.ev (ns ++ m) r b = g b) ∧ m.length ≤ k ∧
    ∀ m', Sh.Wf l.length (ns ++ m ++ m') → f (ns ++ m ++ m') = some (r, ns ++ m ++ m')
theorem draw_contact {l : List Str} {n : Str} {ns : List Sh.Nd} (w : Sh.Wf l.length ns) (h : n ∈ l) : DrawOk l (draw l (.contact n)) (fun b => (Cond.contact n).holds (imB l b)) 1 ns := by
  have hi := ixOf_lt h
  have hp : ∀ {ns : List Sh.Nd}, Sh.Wf l.length ns → ixOf l n < Sh.pl l.length ns 0 ∧ ixOf l n < Sh.pl l.length ns 1 := fun w => ⟨by rw [Sh.pl_low (by omega)]; exact hi, by rw [Sh.pl_low (by omega)]; exact hi⟩
  have step : ∀ {ns : List Sh.Nd}, Sh.Wf l.length ns → ∃ r m, Sh.made ns (ixOf l n) 0 1 = (r, ns ++ m) ∧ Sh.Wf l.length (ns ++ m) ∧ r < (ns ++ m).length + 2 ∧ (∀ b, Sh.ev (ns ++ m) r b = b (ixOf l n)) ∧ m.length ≤ 1 ∧ (m = [] ∨ r = (ns ++ m).length + 1) := fun {ns} w => by
    obtain ⟨r, m, e1, w1, h1, h2, h3, h4, _⟩ := w.made (p := ixOf l n) (l := 0) (h := 1) hi (by omega) (by omega) (hp w).1 (hp w).2
    refine ⟨r, m, e1, w1, h1, fun b => ?_, ?_, ?_⟩
    · rw [h2]
      cases b (ixOf l n)
      · exact Sh.ev_low (by decide)
      · exact Sh.ev_low (by decide)
    · rcases h4 with ⟨rfl, _⟩ | ⟨z, _⟩
      · simp
      · omega
    · rcases h4 with ⟨rfl, _⟩ | ⟨z, z2, _⟩
      · exact .inl rfl
      · right; rw [List.length_append, z, z2]
  obtain ⟨r, m, e1, w1, h1, h2, h3, h4⟩ := step w
  refine ⟨r, m, by rw [draw, e1], w1, h1, fun b => by rw [h2]; rfl, ?_, fun m' w2 => ?_⟩
  · exact h3
  · obtain ⟨r', m3, e5, w5, h5, h6, h7, h8⟩ := step w2
    obtain ⟨rfl, rfl⟩ := Sh.last_old (r0 := r) w2 w5 h8 h5 (by rw [List.length_append]; omega) fun b => by rw [h6, w1.ev_app w2 _ h1, h2]
    rw [draw, e5, List.append_nil]
mutual
theorem draw_ok {l : List Str} (hl : l.length ≤ 60) : ∀ (c : Cond) (ns : List Sh.Nd), Sh.Wf l.length ns → c.within l = true → DrawOk l (draw l c) (fun b => c.holds (imB l b)) (c.cost (2 ^ l.length - 1)) ns
  | .fixed b, ns, w, _ => by
    refine ⟨if b then 1 else 0, [], by rw [draw, List.append_nil], by rw [List.append_nil]; exact w, by rw [List.append_nil]; split <;> omega, fun x => ?_, by simp, fun m' w' => by rw [draw]⟩
    cases b
    · exact Sh.ev_low (by decide)
    · exact Sh.ev_low (by decide)
  | .contact n, ns, w, h => draw_contact w (of_decide_eq_true h)
  | .not c, ns, w, h => by
    obtain ⟨k, m1, e1, w1, h1, h2, h3, h4⟩ := draw_ok hl c ns w h
    obtain ⟨r, m2, kn, e2, w2, _, g1, g2, g3, g4, g5⟩ := Sh.Wf.opp (n := l.length) 61 (ns ++ m1) (fun _ => none) k w1 Sh.Kn1Ok.nil h1 (by omega)
    refine ⟨r, m1 ++ m2, ?_, by rw [← List.append_assoc]; exact w2, by rw [← List.append_assoc]; exact g1, fun b => ?_, ?_, fun m' w' => ?_⟩
    · rw [draw, e1]
      dsimp only
      rw [e2]
      rw [List.append_assoc]
    · rw [← List.append_assoc, g2, h2]; rfl
    · rw [List.length_append, Cond.cost]
      have : 2 ^ (l.length - Sh.pl l.length (ns ++ m1) k) ≤ 2 ^ l.length := Nat.pow_le_pow_right (by omega) (by omega)
      omega
    · have e4 := h4 (m2 ++ m') (by simpa only [List.append_assoc] using w')
      have eN : ns ++ m1 ++ (m2 ++ m') = ns ++ (m1 ++ m2) ++ m' := by simp only [List.append_assoc]
      rw [eN] at e4
      have wN := w'
      have hk : k < (ns ++ (m1 ++ m2) ++ m').length + 2 := by simp only [List.length_append] at h1 ⊢; omega
      obtain ⟨r', m3, kn', e5, w5, _, f1, f2, f3, f4, f5⟩ := Sh.Wf.opp (n := l.length) 61 (ns ++ (m1 ++ m2) ++ m') (fun _ => none) k wN Sh.Kn1Ok.nil hk (by omega)
      have w2' : Sh.Wf l.length (ns ++ (m1 ++ m2)) := by rw [← List.append_assoc]; exact w2
      have g1' : r < (ns ++ (m1 ++ m2)).length + 2 := by rw [← List.append_assoc]; exact g1
      obtain ⟨rfl, rfl⟩ := Sh.last_old (r0 := r) wN w5 f4 f1 (by rw [List.length_append]; omega) fun b => by
        have q1 : Sh.ev (ns ++ (m1 ++ m2) ++ m') k b = Sh.ev (ns ++ m1) k b := by
          rw [← eN]
          exact w1.ev_app (by rw [eN]; exact wN) k h1
        rw [f2, q1, w2'.ev_app wN r g1', ← List.append_assoc, g2]
      rw [draw, e4]
      dsimp only
      rw [e5, List.append_nil]
  | .grp s cs, ns, w, h => by
    have w0 : 1 - stopOf s < ns.length + 2 := by have := stopOf_lt s; omega
    obtain ⟨r, m, e1, w1, h1, h2, h3, h4⟩ := draws_ok hl (stopOf s) (stopOf_lt s) cs ns (1 - stopOf s) w w0 h
    refine ⟨r, m, by rw [draw]; exact e1, w1, h1, fun b => ?_, ?_, fun m' w' => by rw [draw]; exact h4 m' w'⟩
    · show _ = (Cond.grp s cs).holds (imB l b)
      rw [h2, holds_grp]
      show foldB _ _ _ (Sh.ev ns (1 - stopOf s) b) = _
      congr 1
      rw [Sh.ev_low (by have := stopOf_lt s; omega)]
      cases s <;> rfl
    · rw [Cond.cost]
      rw [if_pos rfl] at h3
      exact h3
theorem draws_ok {l : List Str} (hl : l.length ≤ 60) (stop : Nat) (hs : stop < 2) : ∀ (cs : List Cond) (ns : List Sh.Nd) (found : Nat), Sh.Wf l.length ns → found < ns.length + 2 → Cond.withins l cs = true →
    DrawOk l (fun ns => draws l stop cs ns found) (fun b => foldB stop (imB l b) cs (Sh.ev ns found b)) (Cond.costs (2 ^ l.length - 1) cs + (if found = 1 - stop then cs.length - 1 else cs.length) * (2 ^ l.length - 1)) ns
  | [], ns, found, w, hf, _ => ⟨found, [], by show draws l stop [] ns found = _; rw [draws, List.append_nil], by rw [List.append_nil]; exact w, by rw [List.append_nil]; exact hf, fun b => by rw [List.append_nil]; rfl, by simp, fun m' w' => by show draws l stop [] _ found = _; rw [draws]⟩
  | c :: cs, ns, found, w, hf, h => by
    rw [Cond.withins, Bool.and_eq_true] at h
    obtain ⟨k, m1, e1, w1, h1, h2, h3, h4⟩ := draw_ok hl c ns w h.1
    have hf1 : found < (ns ++ m1).length + 2 := by rw [List.length_append]; omega
    obtain ⟨r, m2, kn, e2, w2, _, g1, g2, g3, g4, g5⟩ := Sh.Wf.join (n := l.length) hs 61 (ns ++ m1) (fun _ _ => none) found k w1 Sh.KnOk.nil hf1 h1 (by omega)
    obtain ⟨r3, m3, e3, w3, f1, f2, f3, f4⟩ := draws_ok hl stop hs cs (ns ++ m1 ++ m2) r w2 g1 h.2
    have eA : ns ++ m1 ++ m2 ++ m3 = ns ++ (m1 ++ (m2 ++ m3)) := by simp only [List.append_assoc]
    refine ⟨r3, m1 ++ (m2 ++ m3), ?_, by rw [← eA]; exact w3, by rw [← eA]; exact f1, fun b => ?_, ?_, fun m' w' => ?_⟩
    · show draws l stop (c :: cs) ns found = _
      rw [draws, e1]
      dsimp only
      rw [e2]
      dsimp only
      rw [← eA]
      exact e3
    · rw [← eA, f2]
      show foldB stop (imB l b) cs (Sh.ev (ns ++ m1 ++ m2) r b) = foldB stop (imB l b) (c :: cs) (Sh.ev ns found b)
      unfold foldB
      rw [List.foldl_cons, g2, w.ev_app w1 found hf, h2]
    · have b1 : 2 ^ (l.length - min (Sh.pl l.length (ns ++ m1) found) (Sh.pl l.length (ns ++ m1) k)) ≤ 2 ^ l.length := Nat.pow_le_pow_right (by omega) (by omega)
      rw [Cond.costs]
      simp only [List.length_append, List.length_cons]
      have f3' : m3.length ≤ Cond.costs (2 ^ l.length - 1) cs + cs.length * (2 ^ l.length - 1) := Nat.le_trans f3 (Nat.add_le_add_left (Nat.mul_le_mul_right _ (by split <;> omega)) _)
      by_cases hq : found = 1 - stop
      · rw [if_pos hq, Nat.add_sub_cancel]
        have hm : m2 = [] := by
          unfold Sh.join at e2
          split at e2
          · have := congrArg (fun o : Option (Nat × List Sh.Nd × Sh.Kn) => (o.map fun t => t.2.1.length)) e2
            simp only [Option.map_some, Option.some.injEq, List.length_append] at this
            exact List.eq_nil_of_length_eq_zero (by omega)
          · rw [if_pos (.inl hq)] at e2
            have := congrArg (fun o : Option (Nat × List Sh.Nd × Sh.Kn) => (o.map fun t => t.2.1.length)) e2
            simp only [Option.map_some, Option.some.injEq, List.length_append] at this
            exact List.eq_nil_of_length_eq_zero (by omega)
        subst hm
        simp only [List.length_nil]
        omega
      · rw [if_neg hq, Nat.add_mul, Nat.one_mul]
        omega
    · show draws l stop (c :: cs) _ found = _
      have eN : ns ++ (m1 ++ (m2 ++ m3)) ++ m' = ns ++ m1 ++ (m2 ++ m3 ++ m') := by simp only [List.append_assoc]
      have eM : ns ++ (m1 ++ (m2 ++ m3)) ++ m' = ns ++ m1 ++ m2 ++ (m3 ++ m') := by simp only [List.append_assoc]
      have eP : ns ++ (m1 ++ (m2 ++ m3)) ++ m' = ns ++ m1 ++ m2 ++ m3 ++ m' := by simp only [List.append_assoc]
      have e4 := h4 (m2 ++ m3 ++ m') (by rw [← eN]; exact w')
      have e6 := f4 m' (by rw [← eP]; exact w')
      rw [← eN] at e4
      rw [← eP] at e6
      have hk : k < (ns ++ (m1 ++ (m2 ++ m3)) ++ m').length + 2 := by simp only [List.length_append] at h1 ⊢; omega
      have hf' : found < (ns ++ (m1 ++ (m2 ++ m3)) ++ m').length + 2 := by simp only [List.length_append] at hf ⊢; omega
      obtain ⟨r', m4, kn', e5, w5, _, q1, q2, q3, q4, q5⟩ := Sh.Wf.join (n := l.length) hs 61 (ns ++ (m1 ++ (m2 ++ m3)) ++ m') (fun _ _ => none) found k w' Sh.KnOk.nil hf' hk (by omega)
      obtain ⟨rfl, rfl⟩ := Sh.last_old (r0 := r) w' w5 q4 q1 (by simp only [List.length_append] at g1 ⊢; omega) fun b => by
        have z1 : Sh.ev (ns ++ (m1 ++ (m2 ++ m3)) ++ m') found b = Sh.ev (ns ++ m1) found b := by
          rw [eN]
          exact w1.ev_app (by rw [← eN]; exact w') _ hf1
        have z2 : Sh.ev (ns ++ (m1 ++ (m2 ++ m3)) ++ m') k b = Sh.ev (ns ++ m1) k b := by
          rw [eN]
          exact w1.ev_app (by rw [← eN]; exact w') _ h1
        have z3 : Sh.ev (ns ++ (m1 ++ (m2 ++ m3)) ++ m') r b = Sh.ev (ns ++ m1 ++ m2) r b := by
          rw [eM]
          exact w2.ev_app (by rw [← eM]; exact w') _ g1
        rw [q2, z1, z2, z3, g2]
      rw [draws, e4]
      dsimp only
      rw [e5, List.append_nil]
      exact e6
end

--%% M7
/-! ## isinstance of parts -/
structure TPaK (K : PySem.W.Frag) (mg : Str → Option Value) (cl : Cl) : Prop where
  parts : TParts K mg cl
  o_fx_fx : PySem.W.kitOne K (.ref cl.fx) (.ref cl.fx) = some true
  o_fx_ct : PySem.W.kitOne K (.ref cl.fx) (.ref cl.ct) = some false
  o_fx_tn : PySem.W.kitOne K (.ref cl.fx) (.ref cl.tn) = some false
  o_fx_sr : PySem.W.kitOne K (.ref cl.fx) (.ref cl.sr) = some false
  o_ct_fx : PySem.W.kitOne K (.ref cl.ct) (.ref cl.fx) = some false
  o_ct_ct : PySem.W.kitOne K (.ref cl.ct) (.ref cl.ct) = some true
  o_ct_tn : PySem.W.kitOne K (.ref cl.ct) (.ref cl.tn) = some false
  o_ct_sr : PySem.W.kitOne K (.ref cl.ct) (.ref cl.sr) = some false
  o_tn_fx : PySem.W.kitOne K (.ref cl.tn) (.ref cl.fx) = some false
  o_tn_ct : PySem.W.kitOne K (.ref cl.tn) (.ref cl.ct) = some false
  o_tn_tn : PySem.W.kitOne K (.ref cl.tn) (.ref cl.tn) = some true
  o_tn_sr : PySem.W.kitOne K (.ref cl.tn) (.ref cl.sr) = some false
  o_sr_fx : PySem.W.kitOne K (.ref cl.sr) (.ref cl.fx) = some false
  o_sr_ct : PySem.W.kitOne K (.ref cl.sr) (.ref cl.ct) = some false
  o_sr_tn : PySem.W.kitOne K (.ref cl.sr) (.ref cl.tn) = some false
  o_sr_sr : PySem.W.kitOne K (.ref cl.sr) (.ref cl.sr) = some true
  o_br_fx : PySem.W.kitOne K (.ref cl.br) (.ref cl.fx) = some false
  o_br_ct : PySem.W.kitOne K (.ref cl.br) (.ref cl.ct) = some false
  o_br_tn : PySem.W.kitOne K (.ref cl.br) (.ref cl.tn) = some false
  o_br_sr : PySem.W.kitOne K (.ref cl.br) (.ref cl.sr) = some false
section
variable {K : PySem.W.Frag} {mg : Str → Option Value} {cl : Cl}
theorem TPaK.ne (T : TPaK K mg cl) : cl.fx ≠ cl.ct ∧ cl.fx ≠ cl.tn ∧ cl.fx ≠ cl.sr ∧ cl.fx ≠ cl.br ∧ cl.ct ≠ cl.tn ∧ cl.ct ≠ cl.sr ∧ cl.ct ≠ cl.br ∧ cl.tn ≠ cl.sr ∧ cl.tn ≠ cl.br ∧ cl.sr ≠ cl.br := by
  have nd := T.parts.nd
  simp only [List.nodup_cons, List.mem_cons, List.not_mem_nil, or_false, not_or] at nd
  exact ⟨nd.1.1, nd.1.2.1, nd.1.2.2.1, nd.1.2.2.2, nd.2.1.1, nd.2.1.2.1, nd.2.1.2.2, nd.2.2.1.1, nd.2.2.1.2, nd.2.2.2.1⟩
theorem TPaK.is_Fixed (T : TPaK K mg cl) : Ru.IsT K cl.fx (fun C b => cl.has C ∧ b = decide (C = cl.fx)) := by
  obtain ⟨n1, n2, n3, n4, n5, n6, n7, n8, n9, n10⟩ := T.ne
  rintro C b ⟨h, rfl⟩
  rcases h with rfl | rfl | rfl | rfl | rfl
  · rw [decide_eq_true rfl]
    exact ⟨⟨_, _, T.parts.c_Fixed⟩, T.o_fx_fx⟩
  · rw [decide_eq_false (by first | exact n1 | exact n2 | exact n3 | exact n4 | exact n5 | exact n6 | exact n7 | exact n8 | exact n9 | exact n10 | exact n1.symm | exact n2.symm | exact n3.symm | exact n4.symm | exact n5.symm | exact n6.symm | exact n7.symm | exact n8.symm | exact n9.symm | exact n10.symm)]
    exact ⟨⟨_, _, T.parts.c_Contact⟩, T.o_ct_fx⟩
  · rw [decide_eq_false (by first | exact n1 | exact n2 | exact n3 | exact n4 | exact n5 | exact n6 | exact n7 | exact n8 | exact n9 | exact n10 | exact n1.symm | exact n2.symm | exact n3.symm | exact n4.symm | exact n5.symm | exact n6.symm | exact n7.symm | exact n8.symm | exact n9.symm | exact n10.symm)]
    exact ⟨⟨_, _, T.parts.c_Turned⟩, T.o_tn_fx⟩
  · rw [decide_eq_false (by first | exact n1 | exact n2 | exact n3 | exact n4 | exact n5 | exact n6 | exact n7 | exact n8 | exact n9 | exact n10 | exact n1.symm | exact n2.symm | exact n3.symm | exact n4.symm | exact n5.symm | exact n6.symm | exact n7.symm | exact n8.symm | exact n9.symm | exact n10.symm)]
    exact ⟨⟨_, _, T.parts.c_Series⟩, T.o_sr_fx⟩
  · rw [decide_eq_false (by first | exact n1 | exact n2 | exact n3 | exact n4 | exact n5 | exact n6 | exact n7 | exact n8 | exact n9 | exact n10 | exact n1.symm | exact n2.symm | exact n3.symm | exact n4.symm | exact n5.symm | exact n6.symm | exact n7.symm | exact n8.symm | exact n9.symm | exact n10.symm)]
    exact ⟨⟨_, _, T.parts.c_Branch⟩, T.o_br_fx⟩
theorem TPaK.is_Contact (T : TPaK K mg cl) : Ru.IsT K cl.ct (fun C b => cl.has C ∧ b = decide (C = cl.ct)) := by
  obtain ⟨n1, n2, n3, n4, n5, n6, n7, n8, n9, n10⟩ := T.ne
  rintro C b ⟨h, rfl⟩
  rcases h with rfl | rfl | rfl | rfl | rfl
  · rw [decide_eq_false (by first | exact n1 | exact n2 | exact n3 | exact n4 | exact n5 | exact n6 | exact n7 | exact n8 | exact n9 | exact n10 | exact n1.symm | exact n2.symm | exact n3.symm | exact n4.symm | exact n5.symm | exact n6.symm | exact n7.symm | exact n8.symm | exact n9.symm | exact n10.symm)]
    exact ⟨⟨_, _, T.parts.c_Fixed⟩, T.o_fx_ct⟩
  · rw [decide_eq_true rfl]
    exact ⟨⟨_, _, T.parts.c_Contact⟩, T.o_ct_ct⟩
  · rw [decide_eq_false (by first | exact n1 | exact n2 | exact n3 | exact n4 | exact n5 | exact n6 | exact n7 | exact n8 | exact n9 | exact n10 | exact n1.symm | exact n2.symm | exact n3.symm | exact n4.symm | exact n5.symm | exact n6.symm | exact n7.symm | exact n8.symm | exact n9.symm | exact n10.symm)]
    exact ⟨⟨_, _, T.parts.c_Turned⟩, T.o_tn_ct⟩
  · rw [decide_eq_false (by first | exact n1 | exact n2 | exact n3 | exact n4 | exact n5 | exact n6 | exact n7 | exact n8 | exact n9 | exact n10 | exact n1.symm | exact n2.symm | exact n3.symm | exact n4.symm | exact n5.symm | exact n6.symm | exact n7.symm | exact n8.symm | exact n9.symm | exact n10.symm)]
    exact ⟨⟨_, _, T.parts.c_Series⟩, T.o_sr_ct⟩
  · rw [decide_eq_false (by first | exact n1 | exact n2 | exact n3 | exact n4 | exact n5 | exact n6 | exact n7 | exact n8 | exact n9 | exact n10 | exact n1.symm | exact n2.symm | exact n3.symm | exact n4.symm | exact n5.symm | exact n6.symm | exact n7.symm | exact n8.symm | exact n9.symm | exact n10.symm)]
    exact ⟨⟨_, _, T.parts.c_Branch⟩, T.o_br_ct⟩
theorem TPaK.is_Turned (T : TPaK K mg cl) : Ru.IsT K cl.tn (fun C b => cl.has C ∧ b = decide (C = cl.tn)) := by
  obtain ⟨n1, n2, n3, n4, n5, n6, n7, n8, n9, n10⟩ := T.ne
  rintro C b ⟨h, rfl⟩
  rcases h with rfl | rfl | rfl | rfl | rfl
  · rw [decide_eq_false (by first | exact n1 | exact n2 | exact n3 | exact n4 | exact n5 | exact n6 | exact n7 | exact n8 | exact n9 | exact n10 | exact n1.symm | exact n2.symm | exact n3.symm | exact n4.symm | exact n5.symm | exact n6.symm | exact n7.symm | exact n8.symm | exact n9.symm | exact n10.symm)]
    exact ⟨⟨_, _, T.parts.c_Fixed⟩, T.o_fx_tn⟩
  · rw [decide_eq_false (by first | exact n1 | exact n2 | exact n3 | exact n4 | exact n5 | exact n6 | exact n7 | exact n8 | exact n9 | exact n10 | exact n1.symm | exact n2.symm | exact n3.symm | exact n4.symm | exact n5.symm | exact n6.symm | exact n7.symm | exact n8.symm | exact n9.symm | exact n10.symm)]
    exact ⟨⟨_, _, T.parts.c_Contact⟩, T.o_ct_tn⟩
  · rw [decide_eq_true rfl]
    exact ⟨⟨_, _, T.parts.c_Turned⟩, T.o_tn_tn⟩
  · rw [decide_eq_false (by first | exact n1 | exact n2 | exact n3 | exact n4 | exact n5 | exact n6 | exact n7 | exact n8 | exact n9 | exact n10 | exact n1.symm | exact n2.symm | exact n3.symm | exact n4.symm | exact n5.symm | exact n6.symm | exact n7.symm | exact n8.symm | exact n9.symm | exact n10.symm)]
    exact ⟨⟨_, _, T.parts.c_Series⟩, T.o_sr_tn⟩
  · rw [decide_eq_false (by first | exact n1 | exact n2 | exact n3 | exact n4 | exact n5 | exact n6 | exact n7 | exact n8 | exact n9 | exact n10 | exact n1.symm | exact n2.symm | exact n3.symm | exact n4.symm | exact n5.symm | exact n6.symm | exact n7.symm | exact n8.symm | exact n9.symm | exact n10.symm)]
    exact ⟨⟨_, _, T.parts.c_Branch⟩, T.o_br_tn⟩
theorem TPaK.is_Series (T : TPaK K mg cl) : Ru.IsT K cl.sr (fun C b => cl.has C ∧ b = decide (C = cl.sr)) := by
  obtain ⟨n1, n2, n3, n4, n5, n6, n7, n8, n9, n10⟩ := T.ne
  rintro C b ⟨h, rfl⟩
  rcases h with rfl | rfl | rfl | rfl | rfl
  · rw [decide_eq_false (by first | exact n1 | exact n2 | exact n3 | exact n4 | exact n5 | exact n6 | exact n7 | exact n8 | exact n9 | exact n10 | exact n1.symm | exact n2.symm | exact n3.symm | exact n4.symm | exact n5.symm | exact n6.symm | exact n7.symm | exact n8.symm | exact n9.symm | exact n10.symm)]
    exact ⟨⟨_, _, T.parts.c_Fixed⟩, T.o_fx_sr⟩
  · rw [decide_eq_false (by first | exact n1 | exact n2 | exact n3 | exact n4 | exact n5 | exact n6 | exact n7 | exact n8 | exact n9 | exact n10 | exact n1.symm | exact n2.symm | exact n3.symm | exact n4.symm | exact n5.symm | exact n6.symm | exact n7.symm | exact n8.symm | exact n9.symm | exact n10.symm)]
    exact ⟨⟨_, _, T.parts.c_Contact⟩, T.o_ct_sr⟩
  · rw [decide_eq_false (by first | exact n1 | exact n2 | exact n3 | exact n4 | exact n5 | exact n6 | exact n7 | exact n8 | exact n9 | exact n10 | exact n1.symm | exact n2.symm | exact n3.symm | exact n4.symm | exact n5.symm | exact n6.symm | exact n7.symm | exact n8.symm | exact n9.symm | exact n10.symm)]
    exact ⟨⟨_, _, T.parts.c_Turned⟩, T.o_tn_sr⟩
  · rw [decide_eq_true rfl]
    exact ⟨⟨_, _, T.parts.c_Series⟩, T.o_sr_sr⟩
  · rw [decide_eq_false (by first | exact n1 | exact n2 | exact n3 | exact n4 | exact n5 | exact n6 | exact n7 | exact n8 | exact n9 | exact n10 | exact n1.symm | exact n2.symm | exact n3.symm | exact n4.symm | exact n5.symm | exact n6.symm | exact n7.symm | exact n8.symm | exact n9.symm | exact n10.symm)]
    exact ⟨⟨_, _, T.parts.c_Branch⟩, T.o_br_sr⟩
end

/-! ## sheets: drawn -/
abbrev s_Sheet_drawn : Stmt := inClass (top 33) 7
theorem sc_Sheet_drawn : FnScope ["self", "part", "stop", "found", "inner"] ["self", "part"] (defScope s_Sheet_drawn) := ⟨rfl, rfl, rfl, by decide +kernel, rfl, by decide +kernel, by decide +kernel⟩
structure TDrawn (K : PySem.W.Frag) (mg : Str → Option Value) (cl : Cl) (xc : Xc) (cs : Addr) : Prop where
  opp : TOpp K mg xc cs
  pk : TPaK K mg cl
  m_drawn : MethAt K cs "drawn" "Sheet.drawn" s_Sheet_drawn ["self", "part"]
  z_isinstance : mg "isinstance" = none
  z_int : mg "int" = none
theorem made_over {ns : List Sh.Nd} {p l h : Nat} (g : 2000 < (Sh.made ns p l h).2.length) (hle : ns.length ≤ 2000) : (Sh.made ns p l h).2.take 2000 = ns := by
  unfold Sh.made at g ⊢
  split
  · rename_i e; rw [if_pos e] at g; exact absurd g (by show ¬ 2000 < ns.length; omega)
  · rename_i e
    rw [if_neg e] at g
    split
    · rename_i e2
      rw [e2] at g
      exact absurd g (by show ¬ 2000 < ns.length; omega)
    · rename_i e2
      rw [e2] at g
      have g' : 2000 < (ns ++ [(p, l, h)]).length := g
      rw [List.length_append, List.length_singleton] at g'
      show (ns ++ [(p, l, h)]).take 2000 = ns
      rw [List.take_append_of_le_length (by omega), List.take_of_length_le (by omega)]
theorem Cond.withins_of {l : List Str} : ∀ {cs : List Cond}, (∀ c ∈ cs, c.within l = true) → Cond.withins l cs = true
  | [], _ => rfl
  | c :: cs, h => by
    rw [Cond.withins, h c List.mem_cons_self, Cond.withins_of fun c hc => h c (List.mem_cons_of_mem _ hc)]
    rfl
section
variable {P : Program} {w : World} {K : PySem.W.Frag} {mg : Str → Option Value} {base : Heap} {cl : Cl} {xc : Xc} {cs : Addr}
theorem TDrawn.is_Fixed (T : TDrawn K mg cl xc cs) : Ru.IsT K cl.fx (fun C b => cl.has C ∧ b = decide (C = cl.fx)) := T.pk.is_Fixed
theorem TDrawn.is_Contact (T : TDrawn K mg cl xc cs) : Ru.IsT K cl.ct (fun C b => cl.has C ∧ b = decide (C = cl.ct)) := T.pk.is_Contact
theorem TDrawn.is_Turned (T : TDrawn K mg cl xc cs) : Ru.IsT K cl.tn (fun C b => cl.has C ∧ b = decide (C = cl.tn)) := T.pk.is_Turned
theorem TDrawn.is_Series (T : TDrawn K mg cl xc cs) : Ru.IsT K cl.sr (fun C b => cl.has C ∧ b = decide (C = cl.sr)) := T.pk.is_Series
theorem TDrawn.c_Fixed (T : TDrawn K mg cl xc cs) : ClsAt K mg "Fixed" cl.fx := T.pk.parts.c_Fixed
theorem TDrawn.c_Contact (T : TDrawn K mg cl xc cs) : ClsAt K mg "Contact" cl.ct := T.pk.parts.c_Contact
theorem TDrawn.c_Turned (T : TDrawn K mg cl xc cs) : ClsAt K mg "Turned" cl.tn := T.pk.parts.c_Turned
theorem TDrawn.c_Series (T : TDrawn K mg cl xc cs) : ClsAt K mg "Series" cl.sr := T.pk.parts.c_Series
theorem ShO.imm {C x dx tn ln dn : Addr} {H H' : Hp} {names : List Str} {ns : List Sh.Nd} {S : Addr → Prop} (s : ShO C H x dx tn ln dn names ns) (k : K3 ln dn dn H H') : Imm S H H' := by
  obtain ⟨vs, h1, _⟩ := s.hl
  exact k.imm (fun o e i => by rw [h1] at e; cases e; exact i) (fun o e i => by rw [s.hd] at e; cases e; exact i) (fun o e i => by rw [s.hd] at e; cases e; exact i)
def spSDrawn (cl : Cl) (cs : Addr) (xc : Xc) (n : Nat) : Sp := fun vs H Q E => ∃ (x dx tn ln dn : Addr) (names : List Str) (ns ns' : List Sh.Nd) (v : V) (c : Cond) (r : Nat), vs = [.ref x, v] ∧
  ShO cs H x dx tn ln dn names ns ∧ Sh.Wf names.length ns ∧ names.length ≤ 60 ∧ IsP cl H v c ∧ c.depth ≤ n ∧ c.within names = true ∧ draw names c ns = some (r, ns') ∧
  (ns'.length ≤ 2000 → ∀ H', K3 ln dn dn H H' → ShO cs H' x dx tn ln dn names ns' → Q (.int r) H') ∧
  (2000 < ns'.length → ∀ H', K3 ln dn dn H H' → ShO cs H' x dx tn ln dn names (ns'.take 2000) → E (.ref xc.many) none H')
theorem ok_sdrawn (T : TDrawn K mg cl xc cs) {n k : Nat} (GX_drawn : DispAt P w K mg base (L2.CX P w) (fun C => C = cs) "drawn" k ["self", "part"] (fun _ => spSDrawn cl cs xc n)) (hk : 64 ≤ k) :
    DispAt P w K mg base (L2.CX P w) (fun C => C = cs) "drawn" (k + 1) ["self", "part"] (fun _ => spSDrawn cl cs xc (n + 1)) := by
  have GX_made : DispAt P w K mg base (L2.CX P w) (fun C => C = cs) "made" 1 ["self", "place", "low", "high"] (fun _ => spMade cs xc) := disp_made T.opp.sh
  have GX_joined : DispAt P w K mg base (L2.CX P w) (fun C => C = cs) "joined" (61 + 3) ["self", "one", "other", "stop", "known"] (fun _ => spSJoin cs xc 61) := disp_sjoin T.opp.sh 61
  have GX_opposite : DispAt P w K mg base (L2.CX P w) (fun C => C = cs) "opposite" (61 + 3) ["self", "node", "known"] (fun _ => spOpp cs xc 61) := disp_opp T.opp 61
  obtain ⟨n1, n2, n3, n4, n5, n6, n7, n8, n9, n10⟩ := T.pk.ne
  refine ⟨fun C hC => ?_⟩
  subst hC
  refine methAt_okX T.opp.sh.c_Sheet.cl T.m_drawn sc_Sheet_drawn (fun vs H Q E h => ?_) (fun fa cdv A outer st H vs Q E hr h => ?_)
  · obtain ⟨x, dx, tn, ln, dn, names, ns, ns', v, c, r, rfl, _⟩ := h; rfl
  · obtain ⟨x, dx, tn, ln, dn, names, ns, ns', v, c, r, rfl, s, wf, hl, p, hdp, hw, hj, q, qx⟩ := h
    have hu := hu_of hr
    refine ⟨_, (pss_cons (ps_if (pt_val (pe_callB (call_isO T.is_Fixed) (by rfl) T.z_isinstance (by decide +kernel) (pa_cons (pv 1) (pa_cons (pe_cls T.c_Fixed) pa_nil)))) (pss_one (ps_ret (pe_callTy call_int1 (by rfl) T.z_int (show PySem.bootBuiltins "int" = some (.type "int") by decide +kernel) (pa_cons (pe_fld (pv 1) rfl) pa_nil)))) pss_nil)
        (pss_cons (ps_if (pt_val (pe_callB (call_isO T.is_Contact) (by rfl) T.z_isinstance (by decide +kernel) (pa_cons (pv 1) (pa_cons (pe_cls T.c_Contact) pa_nil)))) (pss_one (ps_ret (pe_methD GX_made hr (passX (L2.takes_of rfl rfl rfl rfl)) (pv 0) (pa_cons (pe_tupIndex (pe_fld (pv 0) rfl) (pa_cons (pe_fld (pv 1) rfl) pa_nil)) (pa_cons pe_int (pa_cons pe_int pa_nil))) (by omega)))) pss_nil)
        (pss_cons (ps_if (pt_val (pe_callB (call_isO T.is_Turned) (by rfl) T.z_isinstance (by decide +kernel) (pa_cons (pv 1) (pa_cons (pe_cls T.c_Turned) pa_nil)))) (pss_one (ps_ret (pe_methD GX_opposite hr (passX (L2.takes_of rfl rfl rfl rfl)) (pv 0) (pa_cons (pe_methD GX_drawn hr (passX (L2.takes_of rfl rfl rfl rfl)) (pv 0) (pa_cons (pe_fld (pv 1) rfl) pa_nil) (Nat.le_refl _)) (pa_cons pe_dnewK pa_nil)) (by omega)))) pss_nil)
        (pss_cons (ps_set (i := 2) sc_Sheet_drawn.nd rfl (by first | exact Or.inl rfl | exact Or.inr rfl) (pe_callTy call_int1 (by rfl) T.z_int (show PySem.bootBuiltins "int" = some (.type "int") by decide +kernel) (pa_cons (pe_not (pe_callB (call_isO T.is_Series) (by rfl) T.z_isinstance (by decide +kernel) (pa_cons (pv 1) (pa_cons (pe_cls T.c_Series) pa_nil)))) pa_nil)))
        (pss_cons (ps_set (i := 3) sc_Sheet_drawn.nd rfl (by first | exact Or.inl rfl | exact Or.inr rfl) (pe_op op_sub pe_int (pv 2)))
        (pss_cons (ps_for (L2.passes_of rfl) rfl (pi_tup (pe_fld (pv 1) rfl)) (pg_name (i := 4) sc_Sheet_drawn.nd rfl (by first | exact Or.inl rfl | exact Or.inr rfl)) (pss_one (ps_set (i := 3) sc_Sheet_drawn.nd rfl (by first | exact Or.inl rfl | exact Or.inr rfl) (pe_methD GX_joined hr (passX (L2.takes_of rfl rfl rfl rfl)) (pv 0) (pa_cons (pv 3) (pa_cons (pe_methD GX_drawn hr (passX (L2.takes_of rfl rfl rfl rfl)) (pv 0) (pa_cons (pv 4) pa_nil) (Nat.le_refl _)) (pa_cons (pv 2) (pa_cons pe_dnewT pa_nil)))) (by omega)))))
        (pss_one (ps_ret (pv 3))))))))), ?_⟩
    walk_at "rd"
    cases p with
    | @fixed a da b h =>
      rw [draw] at hj
      cases hj
      refine ⟨a, _, da, _, true, rfl, h, ⟨.inl rfl, (decide_eq_true rfl).symm⟩, _, rfl, iteT ⟨_, rfl, a, _, da, _, _, rfl, h, T.pk.parts.c_Fixed.cl, T.pk.parts.nv_fx, lk1s, .inr ⟨b, rfl, ?_⟩⟩⟩
      have z := q s.le H (K3.refl H) s
      cases b <;> exact z
    | @contact a da m h =>
      have hm : m ∈ names := of_decide_eq_true (by rw [Cond.within] at hw; exact hw)
      obtain ⟨i1, i2⟩ := ixOf_at hm
      rw [draw] at hj
      cases hj
      refine ⟨a, _, da, _, false, rfl, h, ⟨.inr (.inl rfl), (decide_eq_false n1.symm).symm⟩, _, rfl, iteF ⟨a, _, da, _, true, rfl, h, ⟨.inr (.inl rfl), (decide_eq_true rfl).symm⟩, _, rfl, iteT ?_⟩⟩
      refine ⟨_, rfl, x, C, dx, _, rfl, s.ob, rfl, lkSn (by decide +kernel), _, rfl, x, _, dx, _, _, rfl, s.ob, T.opp.sh.c_Sheet.cl, T.opp.sh.n_names, lkS1, tn, _, rfl, s.hn, _, rfl, a, _, da, _, _, rfl, h, T.pk.parts.c_Contact.cl, T.pk.parts.nn_ct, lk1s, names, m, ixOf names m, rfl, s.hn.sq, i1, i2, x, dx, tn, ln, dn, names, ns, ixOf names m, 0, 1, rfl, s, q, fun g H' sm => ?_⟩
      refine qx g H' (Same.k3 sm) ?_
      rw [made_over g s.le]
      exact s.keep sm
    | @not a da v' c' h p' =>
      rw [Cond.within] at hw
      rw [Cond.depth] at hdp
      obtain ⟨k1, m1, e1, w1, h1, _, _, _⟩ := draw_ok hl c' ns wf hw
      obtain ⟨r2, m2, kn, e2, w2, _, _⟩ := Sh.Wf.opp (n := names.length) 61 (ns ++ m1) (fun _ => none) k1 w1 Sh.Kn1Ok.nil h1 (by omega)
      rw [draw, e1] at hj
      dsimp only at hj
      rw [e2] at hj
      cases hj
      refine ⟨a, _, da, _, false, rfl, h, ⟨.inr (.inr (.inl rfl)), (decide_eq_false n2.symm).symm⟩, _, rfl, iteF ⟨a, _, da, _, false, rfl, h, ⟨.inr (.inr (.inl rfl)), (decide_eq_false n5.symm).symm⟩, _, rfl, iteF ⟨a, _, da, _, true, rfl, h, ⟨.inr (.inr (.inl rfl)), (decide_eq_true rfl).symm⟩, _, rfl, iteT ?_⟩⟩⟩
      refine ⟨_, rfl, x, C, dx, _, rfl, s.ob, rfl, lkSn (by decide +kernel), _, rfl, x, C, dx, _, rfl, s.ob, rfl, lkSn (by decide +kernel), _, rfl, a, _, da, _, _, rfl, h, T.pk.parts.c_Turned.cl, T.pk.parts.np_tn, lk1s,
        x, dx, tn, ln, dn, names, ns, ns ++ m1, v', c', k1, rfl, s, wf, hl, p', by omega, hw, e1, fun hle1 H1 kk1 s1 => fun kd nkd => ?_, fun g H' kk s2 => ?_⟩
      · refine ⟨x, dx, tn, ln, dn, kd, names, ns ++ m1, ns ++ m1 ++ m2, fun _ => none, kn, [], k1, r, rfl, s1.keep (Same.new nkd), w1, Sh.Kn1Ok.nil, upd_same, Kn1V.nil, h1, by omega, e2, fun hle2 H3 kvs3 kk3 s3 _ _ => ?_, fun g H3 kk3 s3 => ?_⟩
        · exact q hle2 H3 (K3.trans kk1 (K3.drop (Same.new nkd) kk3 nkd)) s3
        · exact qx g H3 (K3.trans kk1 (K3.drop (Same.new nkd) kk3 nkd)) s3
      · refine qx (by simp only [List.length_append] at g ⊢; omega) H' kk ?_
        rw [List.take_append_of_le_length (by omega)]
        exact s2
    | @grp a da t vs s' cs' h ht ps =>
      rw [Cond.within] at hw
      rw [Cond.depth] at hdp
      rw [draw] at hj
      obtain ⟨xg, cg⟩ := T.pk.parts.gr s'
      have hg := cl.has_gr s'
      have z1 : cl.gr s' ≠ cl.fx := by
        cases s'
        · exact n4.symm
        · exact n3.symm
      have z2 : cl.gr s' ≠ cl.ct := by
        cases s'
        · exact n7.symm
        · exact n6.symm
      have z3 : cl.gr s' ≠ cl.tn := by
        cases s'
        · exact n9.symm
        · exact n8.symm
      have z4 : s' = decide (cl.gr s' = cl.sr) := by
        cases s'
        · exact (decide_eq_false n10.symm).symm
        · exact (decide_eq_true rfl).symm
      have hs := stopOf_lt s'
      have e1 : (if (!s') = true then (1 : Int) else 0) = (stopOf s' : Nat) := by cases s' <;> rfl
      have e2 : (1 : Int) - (stopOf s' : Nat) = ((1 - stopOf s' : Nat) : Int) := by cases s' <;> rfl
      refine ⟨a, _, da, _, false, rfl, h, ⟨hg, (decide_eq_false z1).symm⟩, _, rfl, iteF ⟨a, _, da, _, false, rfl, h, ⟨hg, (decide_eq_false z2).symm⟩, _, rfl, iteF ⟨a, _, da, _, false, rfl, h, ⟨hg, (decide_eq_false z3).symm⟩, _, rfl, iteF ⟨a, _, da, _, s', rfl, h, ⟨hg, z4⟩, s', rfl, ?_⟩⟩⟩⟩
      rw [e1, e2]
      refine ⟨_, rfl, a, _, da, _, _, rfl, h, cg.cl, T.pk.parts.np s', lk1s, t, rfl, ⟨_, SqT.of ht⟩, for_tup (K := K) (a := t) (xs := vs) (fun i σ H' => ∃ (v4 : Option V) (nsI : List Sh.Nd) (fI : Nat), σ = [some (.ref x), some (.ref a), some (.int (stopOf s' : Nat)), some (.int (fI : Nat)), v4] ∧ K3 ln dn dn H H' ∧ ShO C H' x dx tn ln dn names nsI ∧ Sh.Wf names.length nsI ∧ fI < nsI.length + 2 ∧ draws names (stopOf s') (cs'.drop i) nsI fI = some (r, ns')) ⟨none, ns, _, rfl, K3.refl H, s, wf, by omega, hj⟩ (fun i σ H' _ ⟨_, _, _, _, kI, _⟩ => SqT.of ((s.imm (S := fun _ => False) kI) _ _ ht trivial)) ?_ ?_⟩
      · rintro i y σ H1 hy ⟨v4, nsI, fI, rfl, kI, sI, wI, hfI, hjI⟩
        obtain ⟨ci, hci, pi⟩ := ps.at hy
        obtain ⟨hil, hiv⟩ := List.getElem?_eq_some_iff.mp hci
        rw [List.drop_eq_getElem_cons hil, hiv] at hjI
        have hwi := Cond.withins_mem hw (List.mem_of_getElem? hci)
        have hdi := Cond.depth_mem (List.mem_of_getElem? hci)
        obtain ⟨k1, m1, e1', w1, h1, _, _, _⟩ := draw_ok hl ci nsI wI hwi
        have hf1 : fI < (nsI ++ m1).length + 2 := by rw [List.length_append]; omega
        obtain ⟨r2, m2, kn, e2', w2, _, g1, _⟩ := Sh.Wf.join (n := names.length) hs 61 (nsI ++ m1) (fun _ _ => none) fI k1 w1 Sh.KnOk.nil hf1 h1 (by omega)
        rw [draws, e1'] at hjI
        dsimp only at hjI
        rw [e2'] at hjI
        dsimp only at hjI
        have hwd : Cond.withins names (cs'.drop (i + 1)) = true := Cond.withins_of fun c hc => Cond.withins_mem hw (List.mem_of_mem_drop hc)
        obtain ⟨r3, m3, e3', _⟩ := draws_ok hl (stopOf s') hs (cs'.drop (i + 1)) (nsI ++ m1 ++ m2) r2 w2 g1 hwd
        have eq' : ns' = nsI ++ m1 ++ m2 ++ m3 := by
          have e3'' : draws names (stopOf s') (cs'.drop (i + 1)) (nsI ++ m1 ++ m2) r2 = some (r3, nsI ++ m1 ++ m2 ++ m3) := e3'
          rw [hjI] at e3''
          injection e3'' with e3''
          injection e3''
        walk_at "rd"
        refine ⟨_, rfl, x, C, dx, _, rfl, sI.ob, rfl, lkSn (by decide +kernel), _, rfl, _, rfl, x, C, dx, _, rfl, sI.ob, rfl, lkSn (by decide +kernel), _, rfl,
          x, dx, tn, ln, dn, names, nsI, nsI ++ m1, y, ci, k1, rfl, sI, wI, hl, pi.mono (s.imm kI), by omega, hwi, e1', fun hle1 H2 k2 s2 => ?_, fun g H2 k2 s2 => ?_⟩
        · refine ⟨_, rfl, fun kd nkd => ?_⟩
          refine ⟨x, dx, tn, ln, dn, kd, names, nsI ++ m1, nsI ++ m1 ++ m2, fun _ _ => none, kn, [], fI, k1, stopOf s', r2, rfl, hs, s2.keep (Same.new nkd), w1, Sh.KnOk.nil, upd_same, KnV.nil, (fun e => by rw [e, s2.hd] at nkd; cases nkd), hf1, h1, by omega, e2', fun hle2 H3 kvs3 k3 s3 _ _ => ?_, fun g H3 k3 s3 => ?_⟩
          · exact ⟨_, nsI ++ m1 ++ m2, r2, ⟨rfl, rfl⟩, K3.trans kI (K3.trans k2 (K3.drop (Same.new nkd) k3 nkd)), s3, w2, g1, hjI⟩
          · refine qx (by rw [eq']; simp only [List.length_append] at g ⊢; omega) H3 (K3.trans kI (K3.trans k2 (K3.drop (Same.new nkd) k3 nkd))) ?_
            rw [eq', List.take_append_of_le_length (by omega)]
            exact s3
        · refine qx (by rw [eq']; simp only [List.length_append] at g ⊢; omega) H2 (K3.trans kI k2) ?_
          rw [eq', List.append_assoc (nsI ++ m1), List.take_append_of_le_length (by omega)]
          exact s2
      · rintro σ H1 ⟨v4, nsI, fI, rfl, kI, sI, wI, hfI, hjI⟩
        have hvl := ps.length
        rw [List.drop_of_length_le (by omega), draws] at hjI
        cases hjI
        walk_at "rd"
        exact q sI.le H1 kI sI
theorem disp_sdrawn (T : TDrawn K mg cl xc cs) : ∀ n : Nat, DispAt P w K mg base (L2.CX P w) (fun C => C = cs) "drawn" (n + 64) ["self", "part"] (fun _ => spSDrawn cl cs xc n)
  | 0 => by
    refine ⟨fun C hC => ?_⟩
    subst hC
    refine methAt_okX T.opp.sh.c_Sheet.cl T.m_drawn sc_Sheet_drawn (fun vs H Q E h => ?_) (fun fa cdv A outer st H vs Q E hr h => ?_)
    · obtain ⟨x, dx, tn, ln, dn, names, ns, ns', v, c, r, rfl, _⟩ := h; rfl
    · obtain ⟨x, dx, tn, ln, dn, names, ns, ns', v, c, r, rfl, s, wf, hl, p, hdp, _⟩ := h
      exact absurd c.depth_pos (by omega)
  | n + 1 => by
    have h := ok_sdrawn T (disp_sdrawn T n) (by omega)
    have e : n + 1 + 64 = n + 64 + 1 := by omega
    rw [e]
    exact h
end

--%% M8
/-! ## sheets: made; need, shown, node -/
abbrev s_Sheet___init__ : Stmt := inClass (top 33) 0
theorem sc_Sheet___init__ : FnScope ["self", "names", "name"] ["self", "names"] (defScope s_Sheet___init__) := ⟨rfl, rfl, rfl, by decide +kernel, rfl, by decide +kernel, by decide +kernel⟩
abbrev s_Sheet_need : Stmt := inClass (top 33) 8
theorem sc_Sheet_need : FnScope ["self", "node"] ["self", "node"] (defScope s_Sheet_need) := ⟨rfl, rfl, rfl, by decide +kernel, rfl, by decide +kernel, by decide +kernel⟩
abbrev s_Sheet_node : Stmt := inClass (top 33) 9
theorem sc_Sheet_node : FnScope ["self", "part", "name", "many"] ["self", "part"] (defScope s_Sheet_node) := ⟨rfl, rfl, rfl, by decide +kernel, rfl, by decide +kernel, by decide +kernel⟩
structure TSh (K : PySem.W.Frag) (mg : Str → Option Value) (cl : Cl) (xc : Xc) (cs : Addr) : Prop where
  dr : TDrawn K mg cl xc cs
  names : TNames K mg
  gather : TGather K mg cl
  e_name : ExcAt K mg "NoName" xc.name xc.err
  e_sheet : ExcAt K mg "NoSheet" xc.sheet xc.err
  i_sheet : MethAt K cs "__init__" "Sheet.__init__" s_Sheet___init__ ["self", "names"]
  m_need : MethAt K cs "need" "Sheet.need" s_Sheet_need ["self", "node"]
  m_node : MethAt K cs "node" "Sheet.node" s_Sheet_node ["self", "part"]
  g_MOST_NAMES : GlobC mg "MOST_NAMES" (.int 60)
  z_len : mg "len" = none
  z_set : mg "set" = none
  z_tuple : mg "tuple" = none
  z_isinstance : mg "isinstance" = none
  z_int : mg "int" = none
  z_bool : mg "bool" = none
mutual
theorem Cond.within_gather {l : List Str} : ∀ {c : Cond} {f : List Str}, c.within l = true → (∀ n ∈ f, n ∈ l) → ∀ n ∈ c.gather f, n ∈ l
  | .fixed _, _, _, hf => hf
  | .contact m, f, h, hf => fun n hn => by
    rw [Cond.gather] at hn
    unfold addN at hn
    split at hn
    · exact hf n hn
    · rcases List.mem_append.mp hn with hn | hn
      · exact hf n hn
      · rw [List.mem_singleton.mp hn]
        rw [Cond.within] at h
        exact of_decide_eq_true h
  | .not c, f, h, hf => fun n hn => by
    rw [Cond.within] at h
    rw [Cond.gather] at hn
    exact Cond.within_gather h hf n hn
  | .grp _ cs, f, h, hf => fun n hn => by
    rw [Cond.within] at h
    rw [Cond.gather] at hn
    exact Cond.withins_gather h hf n hn
theorem Cond.withins_gather {l : List Str} : ∀ {cs : List Cond} {f : List Str}, Cond.withins l cs = true → (∀ n ∈ f, n ∈ l) → ∀ n ∈ Cond.gathers f cs, n ∈ l
  | [], _, _, hf => hf
  | c :: cs, f, h, hf => fun n hn => by
    rw [Cond.withins, Bool.and_eq_true] at h
    rw [Cond.gathers] at hn
    exact Cond.withins_gather h.2 (Cond.within_gather h.1 hf) n hn
end
theorem Cond.within_contacts {l : List Str} {c : Cond} (h : c.within l = true) : ∀ n ∈ c.contacts, n ∈ l := Cond.within_gather h fun _ hn => nomatch hn
theorem same_mkS {H : Hp} {x dx C : Addr} {fs : List (Str × V)} (nx : H x = none) (nd : H dx = none) : Same H (upd (upd H dx (.own x)) x (.ins C dx fs)) := fun b o e => by
  rw [upd_ne (ne_of_none e nx), upd_ne (ne_of_none e nd)]
  exact e
theorem all_flatN : ∀ l : List Str, (l.map V.str).all flatV = true
  | [] => rfl
  | _ :: l => all_flatN l
theorem tupN_or {K : PySem.W.Frag} {H : Hp} {l : Addr} {xs : List V} {P : V → Hp → Prop} (h : SqL K H l xs ∨ TupN H l xs) (k : ∀ tn H2, Same H H2 → TupN H2 tn xs → P (.ref tn) H2) :
    (SqL K H l xs ∧ ∀ p o, H p = none → o.dict = none → P (.ref p) (upd H p (.frz o (.tup xs)))) ∨ (SqT K H l xs ∧ P (.ref l) H) := by
  rcases h with h | h
  · exact .inl ⟨h, fun p o np od => k p _ (Same.new np) ⟨o, upd_same, od⟩⟩
  · exact .inr ⟨h.sq, k l H (Same.refl _) h⟩
section
variable {P : Program} {w : World} {K : PySem.W.Frag} {mg : Str → Option Value} {base : Heap} {cl : Cl} {xc : Xc} {cs : Addr}
def spInitSh (K : PySem.W.Frag) (cs : Addr) (xc : Xc) : Sp := fun vs H Q E => ∃ (H0 : Hp) (x dx l : Addr) (names : List Str), vs = [.ref x, .ref l] ∧ H x = some (.ins cs dx []) ∧ Same H0 H ∧ H0 x = none ∧ (SqL K H0 l (names.map V.str) ∨ TupN H0 l (names.map V.str)) ∧ names.length ≤ 1000 ∧ (∀ n ∈ names, n.length ≤ sizeLine) ∧
  ((∀ n ∈ names, isName n = true) → names.length ≤ 60 → names.Nodup → ∀ (H' : Hp) (tn ln dn : Addr), ShO cs H' x dx tn ln dn names [] → Same H0 H' → H0 ln = none → H0 dn = none → Q .non H') ∧
  (¬ (∀ n ∈ names, isName n = true) → ∀ H', Same H0 H' → E (.ref xc.name) none H') ∧
  ((∀ n ∈ names, isName n = true) → ¬ (names.length ≤ 60 ∧ names.Nodup) → ∀ H', Same H0 H' → E (.ref xc.sheet) none H')
theorem ok_init_sh (T : TSh K mg cl xc cs) : MakAt P w K mg base (L2.CX P w) "Sheet" cs 3 ["self", "names"] (spInitSh K cs xc) := by
  have G_is_name : FnAt P w K mg base CX0 "is_name" 2 _ spIsName := ok_is_name T.names
  have e_NoName := T.e_name
  have e_NoSheet := T.e_sheet
  refine makAt_of T.dr.opp.sh.c_Sheet (methAt_okX T.dr.opp.sh.c_Sheet.cl T.i_sheet sc_Sheet___init__ (fun vs H Q E h => ?_) (fun f cdv A outer st H vs Q E hr h => ?_))
  · obtain ⟨H0, x, dx, l, names, rfl, _⟩ := h; rfl
  · obtain ⟨H0, x, dx, l, names, rfl, hx, s0, nx, hl, hlen, hsz, q, qn, qs⟩ := h
    have hu := hu_of hr
    have hq : Sq K H l (names.map V.str) := hl.elim (fun h => .inl (Same.seq s0 h)) (fun h => .inr (h.keep s0).sq)
    refine ⟨_, (pss_cons (ps_for (L2.passes_of rfl) rfl (pi_any (pv 1)) (pg_name (i := 2) sc_Sheet___init__.nd rfl (by first | exact Or.inl rfl | exact Or.inr rfl)) (pss_one (ps_if (pt_not (pt_val (pe_callF G_is_name hr pass0 (pa_cons (pv 2) pa_nil)))) (pss_one (ps_raiseO rfl e_NoName (L2.takes_of rfl rfl rfl rfl))) pss_nil)))
        (pss_cons (ps_if (PW.pt (pw_or (pt_cmpR op_gt (pe_callB call_len_seq (by rfl) T.z_len PySem.boot_len (pa_cons (pv 1) pa_nil)) (pe_gc T.g_MOST_NAMES) (nomark _)) (pw_or1 (pt_cmpR op_lt (pe_lenSetS rfl (by rfl) T.z_len (by rfl) T.z_set (pv 1)) (pe_callB call_len_seq (by rfl) T.z_len PySem.boot_len (pa_cons (pv 1) pa_nil)) (nomark _))))) (pss_one (ps_raiseO rfl e_NoSheet (L2.takes_of rfl rfl rfl rfl))) pss_nil)
        (pss_cons (ps_fld (pv 0) (pe_callTy call_tuple_ofN (by rfl) T.z_tuple (show PySem.bootBuiltins "tuple" = some (.type "tuple") by decide +kernel) (pa_cons (pv 1) pa_nil)) rfl)
        (pss_cons (ps_fld (pv 0) (pe_lst pa_nil) rfl)
        (pss_one (ps_fld (pv 0) pe_dnewT rfl)))))), ?_⟩
    walk_at "rd"
    refine ⟨_, rfl, l, names.map V.str, rfl, for_any (K := K) (a := l) (xs := names.map V.str) (fun i σ H' => ∃ v2 : Option V, σ = [some (.ref x), some (.ref l), v2] ∧ H' = H ∧ ∀ n ∈ names.take i, isName n = true) ⟨none, rfl, rfl, by simp⟩ (hq.elim (fun h => .inl fun i σ H' _ ⟨_, _, e, _⟩ => e ▸ h) (fun h => .inr fun i σ H' _ ⟨_, _, e, _⟩ => e ▸ h)) ?_ ?_⟩
    · rintro i y σ H1 hy ⟨v2, rfl, rfl, hall⟩
      rw [List.getElem?_map] at hy
      obtain ⟨n, hn, rfl⟩ := Option.map_eq_some_iff.mp hy
      walk_at "rd"
      refine ⟨n, rfl, hsz n (List.mem_of_getElem? hn), _, rfl, ?_⟩
      cases e : isName n with
      | false => exact iteT (qn (fun z => by rw [z n (List.mem_of_getElem? hn)] at e; cases e) _ s0)
      | true =>
        refine iteF ⟨rfl, fun m hm => ?_⟩
        rw [List.take_succ, hn] at hm
        rcases List.mem_append.mp hm with hm | hm
        · exact hall m hm
        · rw [List.mem_singleton.mp hm]; exact e
    · rintro σ H1 ⟨v2, rfl, rfl, hall⟩
      rw [List.length_map, List.take_length] at hall
      walk_at "rd"
      refine ⟨_, hq, ?_⟩
      rw [List.length_map]
      by_cases h60 : names.length ≤ 60
      · rw [decide_eq_false (show ¬ (60 : Int) < (names.length : Nat) by omega)]
        refine iteF ⟨_, rfl, l, names, rfl, hq, hlen, fun n hn hnd => ⟨_, hq, _, rfl, ?_⟩⟩
        rw [List.length_map]
        by_cases hd : names.Nodup
        · rw [decide_eq_false (show ¬ (n : Int) < (names.length : Nat) by have := hnd.mpr hd; omega)]
          refine iteF ⟨_, rfl, l, rfl, names.map V.str, ?_⟩
          have hl1 : SqL K H1 l (names.map V.str) ∨ TupN H1 l (names.map V.str) := hl.imp (Same.seq s0) (TupN.keep · s0)
          rcases hl1 with h | h
          · refine .inl ⟨h, fun tn o ntn od => ?_⟩
            have s2 : Same H1 (upd H1 tn (.frz o (.tup (names.map V.str)))) := Same.new ntn
            have ht : TupN (upd H1 tn (.frz o (.tup (names.map V.str)))) tn (names.map V.str) := ⟨o, upd_same, od⟩
            generalize upd H1 tn (.frz o (.tup (names.map V.str))) = H2 at s2 ht ⊢
            have hx2 := s2 _ _ hx
            have s02 : Same H0 H2 := s0.trans s2
            refine ⟨_, rfl, x, _, dx, [], rfl, hx2, T.dr.opp.sh.c_Sheet.cl, T.dr.opp.sh.n_names, (by show 0 < 1000; decide), ?_⟩
            have hx3 : upd H2 x (.ins cs dx [("names", .ref tn)]) x = some (.ins cs dx [("names", .ref tn)]) := upd_same
            have ht3 : TupN (upd H2 x (.ins cs dx [("names", .ref tn)])) tn (names.map V.str) := let ⟨o2, e2, d2⟩ := ht; ⟨o2, by rw [upd_ne (fun z => by rw [z, hx2] at e2; cases e2)]; exact e2, d2⟩
            have s03 : Same H0 (upd H2 x (.ins cs dx [("names", .ref tn)])) := Same.mut s02 nx
            show tSeq (sFld K (tVar 0) (tLst tNil) (Str.ofString "nodes")) (sFld K (tVar 0) tDNewT (Str.ofString "numbers")) _ _ (upd H2 x (.ins cs dx [("names", .ref tn)]))
            generalize upd H2 x (.ins cs dx [("names", .ref tn)]) = H3 at hx3 ht3 s03 ⊢
            clear hx2 ht s2 s02
            walk_at "rd"
            refine ⟨line_ge (by simp), fun ln nln => ?_⟩
            have xl : x ≠ ln := ne_of_none hx3 nln
            have s04 : Same H0 (upd H3 ln (.lst [])) := s03.trans (Same.new nln)
            have hx4 : upd H3 ln (.lst []) x = some (.ins cs dx [("names", .ref tn)]) := Same.new nln _ _ hx3
            have ht4 : TupN (upd H3 ln (.lst [])) tn (names.map V.str) := ht3.keep (Same.new nln)
            have hl4 : upd H3 ln (.lst []) ln = some (.lst []) := upd_same
            generalize upd H3 ln (.lst []) = H4 at s04 hx4 ht4 hl4 ⊢
            refine ⟨_, rfl, x, _, dx, _, rfl, hx4, T.dr.opp.sh.c_Sheet.cl, T.dr.opp.sh.n_nodes, (by show 1 < 1000; decide), ?_⟩
            show ∀ dn, upd H4 x (.ins cs dx [("names", .ref tn), ("nodes", .ref ln)]) dn = none → _
            intro dn ndn
            have hx5 : upd H4 x (.ins cs dx [("names", .ref tn), ("nodes", .ref ln)]) x = some (.ins cs dx [("names", .ref tn), ("nodes", .ref ln)]) := upd_same
            have s05 : Same H0 (upd H4 x (.ins cs dx [("names", .ref tn), ("nodes", .ref ln)])) := Same.mut s04 nx
            have ht5 : TupN (upd H4 x (.ins cs dx [("names", .ref tn), ("nodes", .ref ln)])) tn (names.map V.str) := let ⟨o2, e2, d2⟩ := ht4; ⟨o2, by rw [upd_ne (fun z => by rw [z, hx4] at e2; cases e2)]; exact e2, d2⟩
            have hl5 : upd H4 x (.ins cs dx [("names", .ref tn), ("nodes", .ref ln)]) ln = some (.lst []) := by rw [upd_ne xl.symm]; exact hl4
            refine ⟨_, rfl, x, _, dx, _, rfl, Same.new ndn _ _ hx5, T.dr.opp.sh.c_Sheet.cl, T.dr.opp.sh.n_numbers, (by show 2 < 1000; decide), ?_⟩
            have ne : ∀ {z : Addr} {o : HO}, upd H4 x (.ins cs dx [("names", .ref tn), ("nodes", .ref ln)]) z = some o → z ≠ dn := fun e => ne_of_none e ndn
            refine q hall h60 hd _ tn ln dn ⟨upd_same, ?_, ⟨[], ?_, .nil⟩, ?_, Nat.zero_le _⟩ (Same.mut (s05.trans (Same.new ndn)) nx) (s03.free nln) (s05.free ndn)
            · obtain ⟨o2, e2, d2⟩ := ht5
              exact ⟨o2, by rw [upd_ne (ne_of e2 hx5 (by intro h; cases h)), upd_ne (ne e2)]; exact e2, d2⟩
            · rw [upd_ne xl.symm, upd_ne (ne hl5)]
              exact hl5
            · rw [upd_ne (ne hx5).symm]
              exact upd_same
          · refine .inr ⟨h.sq, ?_⟩
            have s2 : Same H1 H1 := Same.refl _
            have ht := h
            have hx2 := s2 _ _ hx
            have s02 : Same H0 H1 := s0.trans s2
            refine ⟨_, rfl, x, _, dx, [], rfl, hx2, T.dr.opp.sh.c_Sheet.cl, T.dr.opp.sh.n_names, (by show 0 < 1000; decide), ?_⟩
            have hx3 : upd H1 x (.ins cs dx [("names", .ref l)]) x = some (.ins cs dx [("names", .ref l)]) := upd_same
            have ht3 : TupN (upd H1 x (.ins cs dx [("names", .ref l)])) l (names.map V.str) := let ⟨o2, e2, d2⟩ := ht; ⟨o2, by rw [upd_ne (fun z => by rw [z, hx2] at e2; cases e2)]; exact e2, d2⟩
            have s03 : Same H0 (upd H1 x (.ins cs dx [("names", .ref l)])) := Same.mut s02 nx
            show tSeq (sFld K (tVar 0) (tLst tNil) (Str.ofString "nodes")) (sFld K (tVar 0) tDNewT (Str.ofString "numbers")) _ _ (upd H1 x (.ins cs dx [("names", .ref l)]))
            generalize upd H1 x (.ins cs dx [("names", .ref l)]) = H3 at hx3 ht3 s03 ⊢
            clear hx2 ht s2 s02
            walk_at "rd"
            refine ⟨line_ge (by simp), fun ln nln => ?_⟩
            have xl : x ≠ ln := ne_of_none hx3 nln
            have s04 : Same H0 (upd H3 ln (.lst [])) := s03.trans (Same.new nln)
            have hx4 : upd H3 ln (.lst []) x = some (.ins cs dx [("names", .ref l)]) := Same.new nln _ _ hx3
            have ht4 : TupN (upd H3 ln (.lst [])) l (names.map V.str) := ht3.keep (Same.new nln)
            have hl4 : upd H3 ln (.lst []) ln = some (.lst []) := upd_same
            generalize upd H3 ln (.lst []) = H4 at s04 hx4 ht4 hl4 ⊢
            refine ⟨_, rfl, x, _, dx, _, rfl, hx4, T.dr.opp.sh.c_Sheet.cl, T.dr.opp.sh.n_nodes, (by show 1 < 1000; decide), ?_⟩
            show ∀ dn, upd H4 x (.ins cs dx [("names", .ref l), ("nodes", .ref ln)]) dn = none → _
            intro dn ndn
            have hx5 : upd H4 x (.ins cs dx [("names", .ref l), ("nodes", .ref ln)]) x = some (.ins cs dx [("names", .ref l), ("nodes", .ref ln)]) := upd_same
            have s05 : Same H0 (upd H4 x (.ins cs dx [("names", .ref l), ("nodes", .ref ln)])) := Same.mut s04 nx
            have ht5 : TupN (upd H4 x (.ins cs dx [("names", .ref l), ("nodes", .ref ln)])) l (names.map V.str) := let ⟨o2, e2, d2⟩ := ht4; ⟨o2, by rw [upd_ne (fun z => by rw [z, hx4] at e2; cases e2)]; exact e2, d2⟩
            have hl5 : upd H4 x (.ins cs dx [("names", .ref l), ("nodes", .ref ln)]) ln = some (.lst []) := by rw [upd_ne xl.symm]; exact hl4
            refine ⟨_, rfl, x, _, dx, _, rfl, Same.new ndn _ _ hx5, T.dr.opp.sh.c_Sheet.cl, T.dr.opp.sh.n_numbers, (by show 2 < 1000; decide), ?_⟩
            have ne : ∀ {z : Addr} {o : HO}, upd H4 x (.ins cs dx [("names", .ref l), ("nodes", .ref ln)]) z = some o → z ≠ dn := fun e => ne_of_none e ndn
            refine q hall h60 hd _ l ln dn ⟨upd_same, ?_, ⟨[], ?_, .nil⟩, ?_, Nat.zero_le _⟩ (Same.mut (s05.trans (Same.new ndn)) nx) (s03.free nln) (s05.free ndn)
            · obtain ⟨o2, e2, d2⟩ := ht5
              exact ⟨o2, by rw [upd_ne (ne_of e2 hx5 (by intro h; cases h)), upd_ne (ne e2)]; exact e2, d2⟩
            · rw [upd_ne xl.symm, upd_ne (ne hl5)]
              exact hl5
            · rw [upd_ne (ne hx5).symm]
              exact upd_same
        · rw [decide_eq_true (show (n : Int) < (names.length : Nat) by
            have : ¬ n = names.length := fun e => hd (hnd.mp e)
            omega)]
          exact iteT (qs hall (fun z => hd z.2) _ s0)
      · rw [decide_eq_true (show (60 : Int) < (names.length : Nat) by omega)]
        exact iteT (qs hall (fun z => h60 z.1) _ s0)
def spNeed (cs : Addr) (xc : Xc) : Sp := fun vs H Q E => ∃ (x dx tn ln dn : Addr) (names : List Str) (ns : List Sh.Nd) (k : Int), vs = [.ref x, .int k] ∧ ShO cs H x dx tn ln dn names ns ∧ (0 ≤ k ∧ k < ns.length + 2 → Q (.int k) H) ∧ (¬ (0 ≤ k ∧ k < ns.length + 2) → ∀ H', Same H H' → E (.ref xc.sheet) none H')
theorem disp_need (T : TSh K mg cl xc cs) : DispAt P w K mg base (L2.CX P w) (fun C => C = cs) "need" 1 ["self", "node"] (fun _ => spNeed cs xc) := by
  have e_NoSheet := T.e_sheet
  refine ⟨fun C hC => ?_⟩
  subst hC
  refine methAt_okX T.dr.opp.sh.c_Sheet.cl T.m_need sc_Sheet_need (fun vs H Q E h => ?_) (fun fa cdv A outer st H vs Q E hr h => ?_)
  · obtain ⟨x, dx, tn, ln, dn, names, ns, k, rfl, _⟩ := h; rfl
  · obtain ⟨x, dx, tn, ln, dn, names, ns, k, rfl, s, q, qx⟩ := h
    have hu := hu_of hr
    refine ⟨_, (pss_cons (ps_if (PW.pt (pw_or (pt_not (pt_val (pe_callB call_isInt (by rfl) T.z_isinstance (by decide +kernel) (pa_cons (pv 1) (pa_cons (pe_bltn (v := .ty "int") (by rfl) T.z_int (by decide +kernel) rfl) pa_nil))))) (pw_or (pt_val (pe_callB call_isBool (by rfl) T.z_isinstance (by decide +kernel) (pa_cons (pv 1) (pa_cons (pe_bltn (v := .ty "bool") (by rfl) T.z_bool (by decide +kernel) rfl) pa_nil)))) (pw_or1 (pt_not (pt_chain op_le op_lt pe_int (pv 1) (pe_op op_add (pe_callB call_len_seq (by rfl) T.z_len PySem.boot_len (pa_cons (pe_fld (pv 0) rfl) pa_nil)) pe_int))))))) (pss_one (ps_raiseO rfl e_NoSheet (L2.takes_of rfl rfl rfl rfl))) pss_nil)
        (pss_one (ps_ret (pv 1)))), ?_⟩
    walk_at "rd"
    unfold tChain
    walk_at "rd"
    obtain ⟨vs, h1, h2⟩ := s.hl
    have hl := h2.length
    by_cases h0 : 0 ≤ k
    · rw [decide_eq_true h0]
      refine iteT ⟨_, rfl, x, _, dx, _, _, rfl, s.ob, T.dr.opp.sh.c_Sheet.cl, T.dr.opp.sh.n_nodes, lkS2, ln, rfl, _, .inl (SqL.of h1), ?_⟩
      by_cases hk : k < (ns.length : Int) + 2
      · rw [decide_eq_true (show k < (vs.length : Nat) + 2 by omega)]
        exact iteF (q ⟨h0, hk⟩)
      · rw [decide_eq_false (show ¬ k < (vs.length : Nat) + 2 by omega)]
        exact iteT (qx (fun z => hk z.2) _ (Same.refl _))
    · rw [decide_eq_false h0]
      exact iteF (qx (fun z => h0 z.1) _ (Same.refl _))
def spNode (cl : Cl) (cs : Addr) : Sp := fun vs H Q _ => ∃ (x dx tn ln dn : Addr) (names : List Str) (ns ns' : List Sh.Nd) (v : V) (c : Cond) (r : Nat), vs = [.ref x, v] ∧
  ShO cs H x dx tn ln dn names ns ∧ Sh.Wf names.length ns ∧ names.length ≤ 60 ∧ IsP cl H v c ∧ c.depth ≤ 20 ∧ c.size ≤ 60 ∧ c.within names = true ∧ draw names c ns = some (r, ns') ∧ ns'.length ≤ 2000 ∧
  ∀ H', K3 ln dn dn H H' → ShO cs H' x dx tn ln dn names ns' → Q (.int r) H'
theorem disp_node (T : TSh K mg cl xc cs) : DispAt P w K mg base CX0 (fun C => C = cs) "node" 85 ["self", "part"] (fun _ => spNode cl cs) := by
  have GX_drawn : DispAt P w K mg base (L2.CX P w) (fun C => C = cs) "drawn" (20 + 64) ["self", "part"] (fun _ => spSDrawn cl cs xc 20) := disp_sdrawn T.dr 20
  have G_contacts : DispAt P w K mg base CX0 cl.has "contacts" 22 ["self"] (spContacts cl 20) := disp_contacts T.gather 20
  refine ⟨fun C hC => ?_⟩
  subst hC
  refine methAt_ok T.dr.opp.sh.c_Sheet.cl T.m_node sc_Sheet_node (fun vs H Q E h => ?_) (fun fa cdv A outer st H vs Q E hr h => ?_)
  · obtain ⟨x, dx, tn, ln, dn, names, ns, ns', v, c, r, rfl, _⟩ := h; rfl
  · obtain ⟨x, dx, tn, ln, dn, names, ns, ns', v, c, r, rfl, s, wf, hl, p, hdp, hsz, hw, hj, hle, q⟩ := h
    have hu := hu_of hr
    refine ⟨_, (pss_cons (ps_for PassesOwn.never rfl (pi_tup (pe_methD0 G_contacts hr pass0 (pv 1))) (pg_name (i := 2) sc_Sheet_node.nd rfl (by first | exact Or.inl rfl | exact Or.inr rfl)) (pss_one (ps_if (pt_cmpR op_notIn_seq (pv 2) (pe_fld (pv 0) rfl) rfl) (pss_one ps_never) pss_nil)))
        (pss_cons (ps_set (i := 3) sc_Sheet_node.nd rfl (by first | exact Or.inl rfl | exact Or.inr rfl) (pe_callB call_len_seq (by rfl) T.z_len PySem.boot_len (pa_cons (pe_fld (pv 0) rfl) pa_nil)))
        (pss_one (ps_try_calm rfl (fun W pn xe tk _ => (pss_one (ps_ret (pe_methT GX_drawn hr tk (pv 0) (pa_cons (pv 1) pa_nil))))))))), ?_⟩
    walk_at "rd"
    obtain ⟨a', C', dx', fs', rfl, ha', hC', hl'⟩ := meth_of (m := "contacts") (by decide +kernel) p
    refine ⟨_, rfl, a', C', dx', fs', rfl, ha', hC', hl', a', dx', fs', c, rfl, ha', p, hdp, by omega, fun H1 t1 s1 ht1 _ => ?_⟩
    have sh1 := s.keep s1
    refine ⟨t1, rfl, ⟨_, SqT.of ht1⟩, for_tup (K := K) (a := t1) (xs := c.contacts.map V.str) (fun i σ H' => ∃ v2 : Option V, σ = [some (.ref x), some (.ref a'), v2, none] ∧ H' = H1) ⟨none, rfl, rfl⟩ (fun i σ H' _ ⟨_, _, e⟩ => by rw [e]; exact SqT.of ht1) ?_ ?_⟩
    · rintro i y σ H2 hy ⟨v2, rfl, rfl⟩
      rw [List.getElem?_map] at hy
      obtain ⟨n, hn, rfl⟩ := Option.map_eq_some_iff.mp hy
      have hin : n ∈ names := Cond.within_contacts hw n (List.mem_of_getElem? hn)
      walk_at "rd"
      refine ⟨_, rfl, x, _, dx, _, _, rfl, sh1.ob, T.dr.opp.sh.c_Sheet.cl, T.dr.opp.sh.n_names, lkS1, tn, _, rfl, .inr sh1.hn.sq, rfl, all_flatN names, _, rfl, ?_⟩
      rw [show inV (V.str n) (names.map V.str) = true by rw [inV_strs]; exact decide_eq_true hin]
      exact iteF rfl
    · rintro σ H2 ⟨v2, rfl, rfl⟩
      walk_at "rd"
      obtain ⟨vs, h1, h2⟩ := sh1.hl
      refine ⟨_, rfl, x, _, dx, _, _, rfl, sh1.ob, T.dr.opp.sh.c_Sheet.cl, T.dr.opp.sh.n_nodes, lkS2, ln, rfl, _, .inl (SqL.of h1), ?_⟩
      exact ⟨_, rfl, x, C, dx, _, rfl, sh1.ob, rfl, lkSn (by decide +kernel), _, rfl, x, dx, tn, ln, dn, names, ns, ns', .ref a', c, r, rfl, sh1, wf, hl, p.mono (Same.imm s1), hdp, hw, hj, fun _ H' k s2 => q H' (K3.trans (Same.k3 s1) k) s2, fun g => absurd g (by omega)⟩
end

--%% M9
/-! ## the law's cells, words, names (sheets) -/
def cellC (ns : List Int) (k : Int) : Int := if ns.length = 0 then k else ns.getD (k % (ns.length : Int)).toNat 0 + 3 * (k / (ns.length : Int))
def mixed (c k : Int) : Int := (((c + 7919 * k + 11) * 48271 % 2147483647) * ((c + 7919 * k + 11) * 48271 % 2147483647) + 40692 * ((c + 7919 * k + 11) * 48271 % 2147483647)) % 2147483399
theorem mixed_nn (c k : Int) : 0 ≤ mixed c k := Int.emod_nonneg _ (by decide)
def signAt (c : Int) (k : Nat) : Nat := 97 + (mixed c k / 31 % 26).toNat
def wordL (c : Int) (n : Nat) : List Nat := (List.range n).map (signAt c)
theorem wordL_len (c : Int) (n : Nat) : (wordL c n).length = n := by simp [wordL]
theorem wordL_succ (c : Int) (n : Nat) : wordL c (n + 1) = wordL c n ++ [signAt c n] := by simp [wordL, List.range_succ]
theorem wordL_low (c : Int) (n : Nat) : ∀ x ∈ wordL c n, 97 ≤ x ∧ x ≤ 122 := by
  intro x hx
  obtain ⟨k, _, rfl⟩ := List.mem_map.mp hx
  unfold signAt
  have h1 : 0 ≤ mixed c k / 31 % 26 := Int.emod_nonneg _ (by decide)
  have h2 : mixed c k / 31 % 26 < 26 := Int.emod_lt_of_pos _ (by decide)
  omega
theorem letters_at {j : Int} (h0 : 0 ≤ j) (h1 : j < 26) : atI (("abcdefghijklmnopqrstuvwxyz" : Str)).cps.toList j = some (97 + j.toNat) := by
  have e : ("abcdefghijklmnopqrstuvwxyz" : Str).cps.toList = (List.range 26).map (97 + ·) := by decide +kernel
  rw [e]
  refine atI_int h0 ?_
  rw [List.getElem?_map, List.getElem?_range (by omega)]
  rfl
def spCellAt (K : PySem.W.Frag) : Sp := fun vs H Q _ => ∃ (a : Addr) (ns : List Int) (k : Int), vs = [.ref a, .int k] ∧ SqL K H a (ns.map V.int) ∧ ns.length ≤ 1000 ∧ 0 ≤ k ∧ Q (.int (cellC ns k)) H
def spMixed : Sp := fun vs H Q _ => ∃ c k : Int, vs = [.int c, .int k] ∧ Q (.int (mixed c k)) H
def spWord : Sp := fun vs H Q _ => ∃ c n : Int, vs = [.int c, .int n] ∧ 0 ≤ n ∧ n ≤ 1000 ∧ Q (.str (mkS (wordL c n.toNat))) H
/-- names, none twice -/
structure NamesU (H : Hp) (p : Addr) (ns : List Str) (m : Nat) : Prop where
  at_ : H p = some (.lst (ns.map V.str))
  len : ns.length = m
  ok : ∀ n ∈ ns, isName n = true
  nd : ns.Nodup
  sm : ∀ n ∈ ns, n.length ≤ 8
theorem NamesU.keep {H H' : Hp} {p : Addr} {ns : List Str} {m : Nat} (h : NamesU H p ns m) (s : Same H H') : NamesU H' p ns m := ⟨s _ _ h.at_, h.len, h.ok, h.nd, h.sm⟩
def spNames : Sp := fun vs H Q _ => ∃ (c : Int) (m : Nat), vs = [.int c, .int m] ∧ m ≤ 6 ∧ ∀ (H' : Hp) (p : Addr) (ns : List Str), Same H H' → H p = none → NamesU H' p ns m → Q (.ref p) H'
def EndQ (n : Str) : Prop := n.cps.toList.getLast? = some 113
def spNamesQ : Sp := fun vs H Q _ => ∃ (c : Int) (m : Nat), vs = [.int c, .int m] ∧ m ≤ 6 ∧ ∀ (H' : Hp) (p : Addr) (ns : List Str), Same H H' → H p = none → NamesU H' p ns m → (∀ n ∈ ns, EndQ n) → Q (.ref p) H'
abbrev s__law_cell_at : Stmt := top 35
theorem sc__law_cell_at : FnScope ["_law_script", "_law_k"] ["_law_script", "_law_k"] (defScope s__law_cell_at) := ⟨rfl, rfl, rfl, by decide +kernel, rfl, by decide +kernel, by decide +kernel⟩
abbrev s__law_mixed : Stmt := top 36
theorem sc__law_mixed : FnScope ["_law_cell", "_law_k", "_law_mix"] ["_law_cell", "_law_k"] (defScope s__law_mixed) := ⟨rfl, rfl, rfl, by decide +kernel, rfl, by decide +kernel, by decide +kernel⟩
abbrev s__law_word : Stmt := top 37
theorem sc__law_word : FnScope ["_law_cell", "_law_size", "_law_letters", "_law_word_here", "_law_k"] ["_law_cell", "_law_size"] (defScope s__law_word) := ⟨rfl, rfl, rfl, by decide +kernel, rfl, by decide +kernel, by decide +kernel⟩
abbrev s__law_names : Stmt := top 38
theorem sc__law_names : FnScope ["_law_cell", "_law_many", "_law_letters", "_law_base", "_law_at", "_law_hop", "_law_found", "_law_k", "_law_letter"] ["_law_cell", "_law_many"] (defScope s__law_names) := ⟨rfl, rfl, rfl, by decide +kernel, rfl, by decide +kernel, by decide +kernel⟩
structure TCells (K : PySem.W.Frag) (mg : Str → Option Value) : Prop where
  d_cell_at : DefAt K mg "_law_cell_at" s__law_cell_at ["_law_script", "_law_k"]
  d_mixed : DefAt K mg "_law_mixed" s__law_mixed ["_law_cell", "_law_k"]
  d_word : DefAt K mg "_law_word" s__law_word ["_law_cell", "_law_size"]
  d_names : DefAt K mg "_law_names" s__law_names ["_law_cell", "_law_many"]
  z_len : mg "len" = none
  z_range : mg "range" = none
/-- the name of a number -/
def nameL (b : List Nat) (i x : Nat) : List Nat := b.take i ++ [x] ++ b.drop i ++ [113]
theorem kept_q : ∀ z ∈ keptL, z.cps.toList.getLast? ≠ some 113 := by decide +kernel
theorem nameL_ok {b : List Nat} {i x : Nat} (hb : ∀ y ∈ b, 97 ≤ y ∧ y ≤ 122) (hl : b.length ≤ 6) (hx : 97 ≤ x ∧ x ≤ 122) : isName (mkS (nameL b i x)) = true := by
  have low : ∀ y ∈ nameL b i x, 97 ≤ y ∧ y ≤ 122 := fun y hy => by
    unfold nameL at hy
    rcases List.mem_append.mp hy with hy | hy
    · rcases List.mem_append.mp hy with hy | hy
      · rcases List.mem_append.mp hy with hy | hy
        · exact hb y (List.mem_of_mem_take hy)
        · rw [List.mem_singleton.mp hy]; exact hx
      · exact hb y (List.mem_of_mem_drop hy)
    · rw [List.mem_singleton.mp hy]; omega
  have len : (nameL b i x).length = b.length + 2 := by
    unfold nameL
    simp only [List.length_append, List.length_take, List.length_drop, List.length_singleton]
    omega
  have last : (nameL b i x).getLast? = some 113 := by unfold nameL; rw [List.getLast?_append]; rfl
  unfold isName isWord
  rw [tl_mkS, mkS_len]
  have e1 : (nameL b i x).all isLow = true := List.all_eq_true.mpr fun y hy => by
    unfold isLow
    exact decide_eq_true (low y hy)
  have e2 : (nameL b i x).isEmpty = false := by
    cases h : nameL b i x with
    | nil => rw [h] at len; simp at len
    | cons => rfl
  have e4 : ¬ mkS (nameL b i x) ∈ keptL := fun h => kept_q _ h (by rw [tl_mkS]; exact last)
  rw [e1, e2, decide_eq_true (by omega), decide_eq_false e4]
  rfl
theorem nameL_inj {b : List Nat} {i x y : Nat} (h : mkS (nameL b i x) = mkS (nameL b i y)) : x = y := by
  have h := mkS_inj h
  unfold nameL at h
  have h := List.append_cancel_right h
  have h := List.append_cancel_right h
  have h := List.append_cancel_left h
  injection h
section
variable {P : Program} {w : World} {K : PySem.W.Frag} {mg : Str → Option Value} {base : Heap}
theorem ok_cell_at (T : TCells K mg) : FnAt P w K mg base CX0 "_law_cell_at" 1 ["_law_script", "_law_k"] (spCellAt K) := by
  refine fnAt_ok T.d_cell_at sc__law_cell_at (fun vs H Q E h => ?_) (fun f cdv A outer s H vs Q E hr h => ?_)
  · obtain ⟨a, ns, k, rfl, _⟩ := h; rfl
  · obtain ⟨a, ns, n, rfl, hs, hz, h0, k⟩ := h
    refine ⟨_, (pss_cons (ps_if (pt_cmpR op_eq (pe_callB call_len_seq (by rfl) T.z_len PySem.boot_len (pa_cons (pv 0) pa_nil)) pe_int (nomark _)) (pss_one (ps_ret (pv 1))) pss_nil)
        (pss_one (ps_ret (pe_op op_add (pe_ix ix_list (pv 0) (pe_op op_mod (pv 1) (pe_callB call_len_seq (by rfl) T.z_len PySem.boot_len (pa_cons (pv 0) pa_nil))) (fun _ _ => rfl)) (pe_op op_mul pe_int (pe_op op_fdiv (pv 1) (pe_callB call_len_seq (by rfl) T.z_len PySem.boot_len (pa_cons (pv 0) pa_nil)))))))), ?_⟩
    walk_at "rd"
    refine ⟨_, .inl hs, ?_⟩
    rw [List.length_map]
    unfold cellC at k
    by_cases hl : ns.length = 0
    · rw [decide_eq_true (show (ns.length : Int) = 0 by omega)]
      rw [if_pos hl] at k
      exact iteT k
    · rw [decide_eq_false (show ¬ (ns.length : Int) = 0 by omega)]
      rw [if_neg hl] at k
      refine iteF ?_
      have m0 := Int.emod_nonneg n (show (ns.length : Int) ≠ 0 by omega)
      have m1 := Int.emod_lt_of_pos n (show (0 : Int) < ns.length by omega)
      have hn : (n % (ns.length : Int)).toNat < ns.length := by omega
      rw [List.getD_eq_getElem?_getD, List.getElem?_eq_getElem hn] at k
      refine ⟨_, .inl hs, ?_, a, _, _, .int ns[(n % (ns.length : Int)).toNat], rfl, rfl, hs, ?_, _, .inl hs, ?_, _, rfl, ?_⟩
      · rw [List.length_map]; omega
      · rw [List.length_map]
        exact atI_int m0 (by rw [List.getElem?_map, List.getElem?_eq_getElem hn]; rfl)
      · rw [List.length_map]; omega
      · rw [List.length_map]
        exact k
theorem ok_mixed (T : TCells K mg) : FnAt P w K mg base CX0 "_law_mixed" 1 ["_law_cell", "_law_k"] spMixed := by
  refine fnAt_ok T.d_mixed sc__law_mixed (fun vs H Q E h => ?_) (fun f cdv A outer s H vs Q E hr h => ?_)
  · obtain ⟨c, k, rfl, _⟩ := h; rfl
  · obtain ⟨c, n, rfl, k⟩ := h
    refine ⟨_, (pss_cons (ps_set (i := 2) sc__law_mixed.nd rfl (by first | exact Or.inl rfl | exact Or.inr rfl) (pe_op op_mod (pe_op op_mul (pe_op op_add (pe_op op_add (pv 0) (pe_op op_mul pe_int (pv 1))) pe_int) pe_int) pe_int))
        (pss_one (ps_ret (pe_op op_mod (pe_op op_add (pe_op op_mul (pv 2) (pv 2)) (pe_op op_mul pe_int (pv 2))) pe_int)))), ?_⟩
    walk_at "rd"
    have h1 : 0 ≤ (c + 7919 * n + 11) * 48271 % 2147483647 := Int.emod_nonneg _ (by decide)
    have h2 : (c + 7919 * n + 11) * 48271 % 2147483647 < 2147483647 := Int.emod_lt_of_pos _ (by decide)
    exact ⟨.inl ⟨by omega, by omega⟩, k⟩
theorem ok_word (T : TCells K mg) : FnAt P w K mg base CX0 "_law_word" 2 ["_law_cell", "_law_size"] spWord := by
  have G__law_mixed : FnAt P w K mg base CX0 "_law_mixed" 1 _ spMixed := ok_mixed T
  refine fnAt_ok T.d_word sc__law_word (fun vs H Q E h => ?_) (fun f cdv A outer s H vs Q E hr h => ?_)
  · obtain ⟨c, k, rfl, _⟩ := h; rfl
  · obtain ⟨c, n, rfl, hn0, hn, k⟩ := h
    refine ⟨_, (pss_cons (ps_set (i := 2) sc__law_word.nd rfl (by first | exact Or.inl rfl | exact Or.inr rfl) pe_str)
        (pss_cons (ps_set (i := 3) sc__law_word.nd rfl (by first | exact Or.inl rfl | exact Or.inr rfl) pe_str)
        (pss_cons (ps_for PassesOwn.never rfl (pi_range1 rfl T.z_range (pa_cons (pv 1) pa_nil)) (pg_name (i := 4) sc__law_word.nd rfl (by first | exact Or.inl rfl | exact Or.inr rfl)) (pss_one (ps_set (i := 3) sc__law_word.nd rfl (by first | exact Or.inl rfl | exact Or.inr rfl) (pe_op op_add_str (pv 3) (pe_ix ix_str (pv 2) (pe_op op_mod (pe_op op_fdiv (pe_callF G__law_mixed hr pass0 (pa_cons (pv 0) (pa_cons (pv 4) pa_nil))) pe_int) pe_int) (fun _ _ => rfl))))))
        (pss_one (ps_ret (pv 3)))))), ?_⟩
    walk_at "rd"
    refine ⟨_, rfl, _, rfl, by omega, by omega, for_range (lo := 0) (n := n.toNat) (fun i σ H' => ∃ v, σ = [some (.int c), some (.int n), some (.str ("abcdefghijklmnopqrstuvwxyz" : Str)), some (.str (mkS (wordL c i))), v] ∧ H' = H) ⟨none, by rw [empty_mk]; rfl, rfl⟩ ?_ ?_⟩
    · rintro i σ H' hi ⟨v, rfl, rfl⟩
      walk_at "rd"
      have h1 : 0 ≤ mixed c (i : Nat) / 31 % 26 := Int.emod_nonneg _ (by decide)
      have h2 : mixed c (i : Nat) / 31 % 26 < 26 := Int.emod_lt_of_pos _ (by decide)
      rw [Int.zero_add]
      refine ⟨_, _, rfl, _, rfl, by decide +kernel, _, letters_at h1 h2, ?_, _, ⟨?_, rfl⟩, rfl⟩
      · rw [mkS_one, mkS_len, mkS_len, wordL_len, sizeLine_eq]
        simp
        omega
      · rw [mkS_one, mkS_app, wordL_succ]
        rfl
    · rintro σ H' ⟨v, rfl, rfl⟩
      walk_at "rd"
      exact k
theorem ok_namesQ (T : TCells K mg) : FnAt P w K mg base CX0 "_law_names" 3 ["_law_cell", "_law_many"] spNamesQ := by
  have G__law_word : FnAt P w K mg base CX0 "_law_word" 2 _ spWord := ok_word T
  refine fnAt_ok T.d_names sc__law_names (fun vs H Q E h => ?_) (fun f cdv A outer s H vs Q E hr h => ?_)
  · obtain ⟨c, m, rfl, _⟩ := h; rfl
  · obtain ⟨c, m, rfl, hm, k⟩ := h
    refine ⟨_, (pss_cons (ps_set (i := 2) sc__law_names.nd rfl (by first | exact Or.inl rfl | exact Or.inr rfl) pe_str)
        (pss_cons (ps_set (i := 3) sc__law_names.nd rfl (by first | exact Or.inl rfl | exact Or.inr rfl) (pe_callF G__law_word hr pass0 (pa_cons (pv 0) (pa_cons (pe_op op_mod (pv 0) pe_int) pa_nil))))
        (pss_cons (ps_set (i := 4) sc__law_names.nd rfl (by first | exact Or.inl rfl | exact Or.inr rfl) (pe_op op_mod (pe_op op_fdiv (pv 0) pe_int) (pe_op op_add (pe_callB call_len_str (by rfl) T.z_len PySem.boot_len (pa_cons (pv 3) pa_nil)) pe_int)))
        (pss_cons (ps_set (i := 5) sc__law_names.nd rfl (by first | exact Or.inl rfl | exact Or.inr rfl) (pe_ix ix_list (pe_lst (pa_cons pe_int (pa_cons pe_int (pa_cons pe_int pa_nil)))) (pe_op op_mod (pe_op op_fdiv (pv 0) pe_int) pe_int) (fun _ _ => rfl)))
        (pss_cons (ps_set (i := 6) sc__law_names.nd rfl (by first | exact Or.inl rfl | exact Or.inr rfl) (pe_lst pa_nil))
        (pss_cons (ps_for PassesOwn.never rfl (pi_range1 rfl T.z_range (pa_cons (pv 1) pa_nil)) (pg_name (i := 7) sc__law_names.nd rfl (by first | exact Or.inl rfl | exact Or.inr rfl)) (pss_cons (ps_set (i := 8) sc__law_names.nd rfl (by first | exact Or.inl rfl | exact Or.inr rfl) (pe_ix ix_str (pv 2) (pe_op op_mod (pe_op op_add (pe_op op_fdiv (pv 0) pe_int) (pe_op op_mul (pv 5) (pv 7))) pe_int) (fun _ _ => rfl)))
          (pss_one (ps_expr (pe_bm PySem.F.plainAttrs_list PySem.F.slot_list_append PySem.F.type_list_append mt_append (pv 6) (pa_cons (pe_op op_add_str (pe_op op_add_str (pe_op op_add_str (pe_slice sl_str (pv 3) po_none (po_some (pv 4))) (pv 8)) (pe_slice sl_str (pv 3) (po_some (pv 4)) po_none)) pe_str) pa_nil))))))
        (pss_one (ps_ret (pv 6))))))))), ?_⟩
    walk_at "rd"
    have h70 := Int.emod_nonneg c (show (7 : Int) ≠ 0 by decide)
    have h71 := Int.emod_lt_of_pos c (show (0 : Int) < 7 by decide)
    refine ⟨c, c % 7, rfl, h70, by omega, ?_⟩
    walk_at "rd"
    have hbl : (wordL c (c % 7).toNat).length ≤ 6 := by rw [wordL_len]; omega
    have hbw := wordL_low c (c % 7).toNat
    generalize wordL c (c % 7).toNat = b at hbl hbw
    rw [mkS_len]
    have hb1 : (0 : Int) < (b.length : Nat) + 1 := by omega
    have ha0 := Int.emod_nonneg (c / 7) (show ((b.length : Nat) : Int) + 1 ≠ 0 by omega)
    generalize c / 7 % (((b.length : Nat) : Int) + 1) = at_ at ha0
    obtain ⟨i, rfl⟩ := Int.eq_ofNat_of_zero_le ha0
    have h30 := Int.emod_nonneg (c / 49) (show (3 : Int) ≠ 0 by decide)
    have h31 := Int.emod_lt_of_pos (c / 49) (show (0 : Int) < 3 by decide)
    obtain ⟨hop, hh, hat⟩ : ∃ hop : Nat, (hop = 1 ∨ hop = 3 ∨ hop = 5) ∧ atI [V.int 1, V.int 3, V.int 5] (c / 49 % 3) = some (.int (hop : Int)) := by
      rcases (show c / 49 % 3 = 0 ∨ c / 49 % 3 = 1 ∨ c / 49 % 3 = 2 by omega) with e | e | e <;> rw [e]
      · exact ⟨1, .inl rfl, rfl⟩
      · exact ⟨3, .inr (.inl rfl), rfl⟩
      · exact ⟨5, .inr (.inr rfl), rfl⟩
    refine ⟨line_ge (by omega), hb1, line_ge (by simp), fun p1 np1 => ⟨p1, _, _, _, rfl, rfl, SqL.of upd_same, hat, line_ge (by simp), fun p np => ?_⟩⟩
    have s1 : Same H (upd (upd H p1 (.lst [.int 1, .int 3, .int 5])) p (.lst [])) := (Same.new np1).trans (Same.new np)
    have np0 : H p = none := (Same.new np1).free np
    have hp0 : upd (upd H p1 (.lst [.int 1, .int 3, .int 5])) p (.lst []) p = some (.lst []) := upd_same
    generalize upd (upd H p1 (.lst [.int 1, .int 3, .int 5])) p (.lst []) = H1 at s1 hp0 ⊢
    let xs : Nat → Nat := fun j => 97 + ((c / 147 + (hop : Int) * (j : Int)) % 26).toNat
    have xl : ∀ j, 97 ≤ xs j ∧ xs j ≤ 122 := fun j => by
      have h1 := Int.emod_nonneg (c / 147 + (hop : Int) * (j : Int)) (show (26 : Int) ≠ 0 by decide)
      have h2 := Int.emod_lt_of_pos (c / 147 + (hop : Int) * (j : Int)) (show (0 : Int) < 26 by decide)
      show 97 ≤ 97 + _ ∧ 97 + _ ≤ 122
      omega
    have xi : ∀ j k, j < k → k < 6 → xs j ≠ xs k := fun j k hjk hk6 e => by
      have h1 := Int.emod_nonneg (c / 147 + (hop : Int) * (j : Int)) (show (26 : Int) ≠ 0 by decide)
      have h2 := Int.emod_nonneg (c / 147 + (hop : Int) * (k : Int)) (show (26 : Int) ≠ 0 by decide)
      have e' : ((c / 147 + (hop : Int) * (j : Int)) % 26).toNat = ((c / 147 + (hop : Int) * (k : Int)) % 26).toNat := by
        have e : 97 + ((c / 147 + (hop : Int) * (j : Int)) % 26).toNat = 97 + ((c / 147 + (hop : Int) * (k : Int)) % 26).toNat := e
        omega
      rcases hh with rfl | rfl | rfl <;> omega
    refine ⟨_, rfl, _, rfl, by omega, by omega, for_range (lo := 0) (n := m) (fun j σ H' => ∃ (v7 v8 : Option V), σ = [some (.int c), some (.int m), some (.str ("abcdefghijklmnopqrstuvwxyz" : Str)), some (.str (mkS b)), some (.int (i : Nat)), some (.int (hop : Int)), some (.ref p), v7, v8] ∧ Same H H' ∧ H' p = some (.lst (((List.range j).map fun j => mkS (nameL b i (xs j))).map V.str)))
      ⟨none, none, rfl, s1, hp0⟩ ?_ ?_⟩
    · rintro j σ H2 hj ⟨v7, v8, rfl, s2, hp2⟩
      walk_at "rd"
      rw [Int.zero_add]
      have h1 := Int.emod_nonneg (c / 147 + (hop : Int) * (j : Int)) (show (26 : Int) ≠ 0 by decide)
      have h2 := Int.emod_lt_of_pos (c / 147 + (hop : Int) * (j : Int)) (show (0 : Int) < 26 by decide)
      refine ⟨.inl ⟨by omega, by omega⟩, line_ge (by decide +kernel), _, letters_at h1 h2, ?_⟩
      have l1 : (b.take i).length ≤ 6 := by rw [List.length_take]; omega
      have l2 : (b.drop i).length ≤ 6 := by rw [List.length_drop]; omega
      refine ⟨_, rfl, .inl ⟨rfl, _, SqL.of hp2⟩, ?_⟩
      walk_at "rd"
      rw [cutS_to, cutS_from, mkS_one, mkS_app, mkS_app, show ("q" : Str) = mkS [113] by decide +kernel, mkS_app]
      simp only [mkS_len]
      refine ⟨line_ge ?_, line_ge ?_, line_ge ?_, line_ge ?_, line_ge ?_, p, _, _, rfl, rfl, hp2, ?_, ?_⟩
      iterate 5 first | omega | (simp only [List.length_append, List.length_singleton]; omega)
      · rw [List.length_map, List.length_map, List.length_range]
        exact small1000 (by omega)
      · refine ⟨_, _, ⟨rfl, rfl⟩, Same.mut s2 np0, ?_⟩
        rw [upd_same, List.range_succ, List.map_append, List.map_append]
        rfl
    · rintro σ H2 ⟨v7, v8, rfl, s2, hp2⟩
      walk_at "rd"
      refine k H2 p _ s2 np0 ⟨hp2, by simp, fun n hn => ?_, ?_, fun n hn => ?_⟩ (fun n hn => ?_)
      · obtain ⟨j, _, rfl⟩ := List.mem_map.mp hn
        exact nameL_ok hbw hbl (xl j)
      · refine nodup_map_range fun a d ha hd e => ?_
        have e := nameL_inj e
        rcases Nat.lt_trichotomy a d with h | h | h
        · exact absurd e (xi a d h (by omega))
        · exact h
        · exact absurd e.symm (xi d a h (by omega))
      · obtain ⟨j, _, rfl⟩ := List.mem_map.mp hn
        rw [mkS_len]
        unfold nameL
        simp only [List.length_append, List.length_take, List.length_drop, List.length_singleton]
        omega
      · obtain ⟨j, _, rfl⟩ := List.mem_map.mp hn
        unfold EndQ
        show List.getLast? (b.take i ++ [xs j] ++ b.drop i ++ [113]) = _
        rw [List.getLast?_append]
        rfl
theorem ok_names (T : TCells K mg) : FnAt P w K mg base CX0 "_law_names" 3 ["_law_cell", "_law_many"] spNames :=
  (ok_namesQ T).imp fun _ _ _ _ ⟨c, m, e, hm, k⟩ => ⟨c, m, e, hm, fun H' p ns s n h _ => k H' p ns s n h⟩
end

--%% MC
/-! ## sheets: shown -/
abbrev s_Sheet_shown : Stmt := inClass (top 33) 14
theorem sc_Sheet_shown : FnScope ["self", "node"] ["self", "node"] (defScope s_Sheet_shown) := ⟨rfl, rfl, rfl, by decide +kernel, rfl, by decide +kernel, by decide +kernel⟩
structure TShown (K : PySem.W.Frag) (mg : Str → Option Value) (cl : Cl) (xc : Xc) (cs : Addr) : Prop where
  sh : TSh K mg cl xc cs
  m_shown : MethAt K cs "shown" "Sheet.shown" s_Sheet_shown ["self", "node"]
section
variable {P : Program} {w : World} {K : PySem.W.Frag} {mg : Str → Option Value} {base : Heap} {cl : Cl} {xc : Xc} {cs : Addr}
def spShown (cs : Addr) (xc : Xc) : Sp := fun vs H Q E => ∃ (x dx tn ln dn : Addr) (names : List Str) (ns : List Sh.Nd) (k : Int), vs = [.ref x, .int k] ∧ ShO cs H x dx tn ln dn names ns ∧
  (0 ≤ k ∧ k < 2 → ∀ (H' : Hp) (t : Addr), Same H H' → H' t = some (.tup []) → Q (.ref t) H') ∧ (∀ nd : Sh.Nd, 2 ≤ k → ns[k.toNat - 2]? = some nd → ∀ t, H t = some (.tup (ndV nd)) → Q (.ref t) H) ∧
  (¬ (0 ≤ k ∧ k < ns.length + 2) → ∀ H', Same H H' → E (.ref xc.sheet) none H')
theorem disp_shown (T : TShown K mg cl xc cs) : DispAt P w K mg base (L2.CX P w) (fun C => C = cs) "shown" 2 ["self", "node"] (fun _ => spShown cs xc) := by
  have GX_need : DispAt P w K mg base (L2.CX P w) (fun C => C = cs) "need" 1 ["self", "node"] (fun _ => spNeed cs xc) := disp_need T.sh
  refine ⟨fun C hC => ?_⟩
  subst hC
  refine methAt_okX T.sh.dr.opp.sh.c_Sheet.cl T.m_shown sc_Sheet_shown (fun vs H Q E h => ?_) (fun fa cdv A outer st H vs Q E hr h => ?_)
  · obtain ⟨x, dx, tn, ln, dn, names, ns, k, rfl, _⟩ := h; rfl
  · obtain ⟨x, dx, tn, ln, dn, names, ns, k, rfl, s, q0, q, qx⟩ := h
    have hu := hu_of hr
    refine ⟨_, (pss_cons (ps_if (pt_cmpR op_lt (pe_methD GX_need hr (passX (L2.takes_of rfl rfl rfl rfl)) (pv 0) (pa_cons (pv 1) pa_nil)) pe_int (nomark _)) (pss_one (ps_ret (pe_tup pa_nil))) pss_nil)
        (pss_one (ps_ret (pe_ix ix_list (pe_fld (pv 0) rfl) (pe_op op_sub (pv 1) pe_int) (fun _ _ => rfl))))), ?_⟩
    walk_at "rd"
    refine ⟨_, rfl, x, C, dx, _, rfl, s.ob, rfl, lkSn (by decide +kernel), _, rfl, x, dx, tn, ln, dn, names, ns, k, rfl, s, fun hk => ⟨_, rfl, ?_⟩, qx⟩
    by_cases h2 : k < 2
    · rw [decide_eq_true h2]
      exact iteT ⟨Nat.zero_le _, fun t nt => q0 ⟨hk.1, h2⟩ _ t (Same.new nt) upd_same⟩
    · rw [decide_eq_false h2]
      obtain ⟨n, rfl⟩ := Int.eq_ofNat_of_zero_le hk.1
      obtain ⟨p, l, g, e⟩ := Sh.at_some (show 2 ≤ n by omega) (show n < ns.length + 2 by omega)
      obtain ⟨vs, t, h1, h3, h4, h5⟩ := s.at (by omega) e
      exact iteF ⟨_, rfl, x, _, dx, _, _, rfl, s.ob, T.sh.dr.opp.sh.c_Sheet.cl, T.sh.dr.opp.sh.n_nodes, lkS2, ln, vs, _, .ref t, rfl, rfl, SqL.of h1, h3, q (p, l, g) (by omega) e t h4⟩
end

/-! ## sheets: two nodes, the opposite -/
abbrev s_Sheet_of_two : Stmt := inClass (top 33) 10
theorem sc_Sheet_of_two : FnScope ["self", "one", "other", "stop", "many"] ["self", "one", "other", "stop"] (defScope s_Sheet_of_two) := ⟨rfl, rfl, rfl, by decide +kernel, rfl, by decide +kernel, by decide +kernel⟩
abbrev s_Sheet_both : Stmt := inClass (top 33) 11
theorem sc_Sheet_both : FnScope ["self", "one", "other"] ["self", "one", "other"] (defScope s_Sheet_both) := ⟨rfl, rfl, rfl, by decide +kernel, rfl, by decide +kernel, by decide +kernel⟩
abbrev s_Sheet_either : Stmt := inClass (top 33) 12
theorem sc_Sheet_either : FnScope ["self", "one", "other"] ["self", "one", "other"] (defScope s_Sheet_either) := ⟨rfl, rfl, rfl, by decide +kernel, rfl, by decide +kernel, by decide +kernel⟩
structure TTwo (K : PySem.W.Frag) (mg : Str → Option Value) (cl : Cl) (xc : Xc) (cs : Addr) : Prop where
  sh : TSh K mg cl xc cs
  m_of_two : MethAt K cs "of_two" "Sheet.of_two" s_Sheet_of_two ["self", "one", "other", "stop"]
  m_both : MethAt K cs "both" "Sheet.both" s_Sheet_both ["self", "one", "other"]
  m_either : MethAt K cs "either" "Sheet.either" s_Sheet_either ["self", "one", "other"]
  z_len : mg "len" = none
section
variable {P : Program} {w : World} {K : PySem.W.Frag} {mg : Str → Option Value} {base : Heap} {cl : Cl} {xc : Xc} {cs : Addr}
/-- what two nodes joined come to -/
def JoinP (cs : Addr) (H : Hp) (x dx tn ln dn : Addr) (names : List Str) (ns ns' : List Sh.Nd) (a c stop r : Nat) (Q : VK) : Prop := stop < 2 ∧ ShO cs H x dx tn ln dn names ns ∧ Sh.Wf names.length ns ∧ names.length ≤ 60 ∧ a < ns.length + 2 ∧ c < ns.length + 2 ∧
  (∃ kn', Sh.join names.length stop 61 ns (fun _ _ => none) a c = some (r, ns', kn')) ∧ ns'.length ≤ 2000 ∧ ∀ H', K3 ln dn dn H H' → ShO cs H' x dx tn ln dn names ns' → Q (.int r) H'
def spOfTwo (cs : Addr) : Sp := fun vs H Q _ => ∃ (x dx tn ln dn : Addr) (names : List Str) (ns ns' : List Sh.Nd) (a c stop r : Nat), vs = [.ref x, .int a, .int c, .int stop] ∧ JoinP cs H x dx tn ln dn names ns ns' a c stop r Q
def spJoinS (cs : Addr) (stop : Nat) : Sp := fun vs H Q _ => ∃ (x dx tn ln dn : Addr) (names : List Str) (ns ns' : List Sh.Nd) (a c r : Nat), vs = [.ref x, .int a, .int c] ∧ JoinP cs H x dx tn ln dn names ns ns' a c stop r Q
theorem disp_of_two (T : TTwo K mg cl xc cs) : DispAt P w K mg base CX0 (fun C => C = cs) "of_two" 65 ["self", "one", "other", "stop"] (fun _ => spOfTwo cs) := by
  have GX_joined : DispAt P w K mg base (L2.CX P w) (fun C => C = cs) "joined" 64 ["self", "one", "other", "stop", "known"] (fun _ => spSJoin cs xc 61) := disp_sjoin T.sh.dr.opp.sh 61
  have G_need := (disp_need (P := P) (w := w) (base := base) T.sh).calm
  refine ⟨fun C hC => ?_⟩
  subst hC
  refine methAt_ok T.sh.dr.opp.sh.c_Sheet.cl T.m_of_two sc_Sheet_of_two (fun vs H Q E h => ?_) (fun fa cdv A outer st H vs Q E hr h => ?_)
  · obtain ⟨x, dx, tn, ln, dn, names, ns, ns', a, c, stop, r, rfl, _⟩ := h; rfl
  · obtain ⟨x, dx, tn, ln, dn, names, ns, ns', a, c, stop, r, rfl, hs, s, wf, hl, ha, hc, ⟨kn', hj⟩, hle, q⟩ := h
    have hu := hu_of hr
    refine ⟨_, (pss_cons (ps_expr (pe_methD G_need hr pass0 (pv 0) (pa_cons (pv 1) pa_nil)))
        (pss_cons (ps_expr (pe_methD G_need hr pass0 (pv 0) (pa_cons (pv 2) pa_nil)))
        (pss_cons (ps_set (i := 4) sc_Sheet_of_two.nd rfl (by first | exact Or.inl rfl | exact Or.inr rfl) (pe_callB call_len_seq (by rfl) T.z_len PySem.boot_len (pa_cons (pe_fld (pv 0) rfl) pa_nil)))
        (pss_one (ps_try_calm rfl (fun W pn xe tk _ => (pss_one (ps_ret (pe_methT GX_joined hr tk (pv 0) (pa_cons (pv 1) (pa_cons (pv 2) (pa_cons (pv 3) (pa_cons pe_dnewT pa_nil))))))))))))), ?_⟩
    walk_at "rd"
    obtain ⟨vs, h1, h2⟩ := s.hl
    refine ⟨_, rfl, x, C, dx, _, rfl, s.ob, rfl, lkSn (by decide +kernel), _, rfl, x, dx, tn, ln, dn, names, ns, (a : Int), rfl, s, fun _ => ?_, (fun h => absurd ⟨by omega, by omega⟩ h)⟩
    refine ⟨_, rfl, x, C, dx, _, rfl, s.ob, rfl, lkSn (by decide +kernel), _, rfl, x, dx, tn, ln, dn, names, ns, (c : Int), rfl, s, fun _ => ?_, (fun h => absurd ⟨by omega, by omega⟩ h)⟩
    refine ⟨_, rfl, x, _, dx, _, _, rfl, s.ob, T.sh.dr.opp.sh.c_Sheet.cl, T.sh.dr.opp.sh.n_nodes, lkS2, ln, rfl, _, .inl (SqL.of h1), ?_⟩
    refine ⟨_, rfl, x, C, dx, _, rfl, s.ob, rfl, lkSn (by decide +kernel), _, rfl, _, rfl, _, rfl, fun kd nkd => ?_⟩
    refine ⟨x, dx, tn, ln, dn, kd, names, ns, ns', fun _ _ => none, kn', [], a, c, stop, r, rfl, hs, s.keep (Same.new nkd), wf, Sh.KnOk.nil, upd_same, KnV.nil, (fun e => by rw [e, s.hd] at nkd; cases nkd), ha, hc, by omega, hj, fun _ H3 kvs3 k3 s3 _ _ => ?_, fun g => absurd g (by omega)⟩
    exact q H3 (K3.drop (Same.new nkd) k3 nkd) s3
theorem disp_both (T : TTwo K mg cl xc cs) : DispAt P w K mg base CX0 (fun C => C = cs) "both" 66 ["self", "one", "other"] (fun _ => spJoinS cs 0) := by
  have G_of_two := disp_of_two (P := P) (w := w) (base := base) T
  refine ⟨fun C hC => ?_⟩
  subst hC
  refine methAt_ok T.sh.dr.opp.sh.c_Sheet.cl T.m_both sc_Sheet_both (fun vs H Q E h => ?_) (fun fa cdv A outer st H vs Q E hr h => ?_)
  · obtain ⟨x, dx, tn, ln, dn, names, ns, ns', a, c, r, rfl, _⟩ := h; rfl
  · obtain ⟨x, dx, tn, ln, dn, names, ns, ns', a, c, r, rfl, J⟩ := h
    have hu := hu_of hr
    refine ⟨_, (pss_one (ps_ret (pe_methD G_of_two hr pass0 (pv 0) (pa_cons (pv 1) (pa_cons (pv 2) (pa_cons pe_int pa_nil)))))), ?_⟩
    walk_at "rd"
    exact ⟨_, rfl, x, C, dx, _, rfl, J.2.1.ob, rfl, lkSn (by decide +kernel), _, rfl, _, rfl, x, dx, tn, ln, dn, names, ns, ns', a, c, 0, r, rfl, J⟩
theorem disp_either (T : TTwo K mg cl xc cs) : DispAt P w K mg base CX0 (fun C => C = cs) "either" 66 ["self", "one", "other"] (fun _ => spJoinS cs 1) := by
  have G_of_two := disp_of_two (P := P) (w := w) (base := base) T
  refine ⟨fun C hC => ?_⟩
  subst hC
  refine methAt_ok T.sh.dr.opp.sh.c_Sheet.cl T.m_either sc_Sheet_either (fun vs H Q E h => ?_) (fun fa cdv A outer st H vs Q E hr h => ?_)
  · obtain ⟨x, dx, tn, ln, dn, names, ns, ns', a, c, r, rfl, _⟩ := h; rfl
  · obtain ⟨x, dx, tn, ln, dn, names, ns, ns', a, c, r, rfl, J⟩ := h
    have hu := hu_of hr
    refine ⟨_, (pss_one (ps_ret (pe_methD G_of_two hr pass0 (pv 0) (pa_cons (pv 1) (pa_cons (pv 2) (pa_cons pe_int pa_nil)))))), ?_⟩
    walk_at "rd"
    exact ⟨_, rfl, x, C, dx, _, rfl, J.2.1.ob, rfl, lkSn (by decide +kernel), _, rfl, _, rfl, x, dx, tn, ln, dn, names, ns, ns', a, c, 1, r, rfl, J⟩
end

/-! ## sheets: turned -/
abbrev s_Sheet_turned : Stmt := inClass (top 33) 13
theorem sc_Sheet_turned : FnScope ["self", "node", "many"] ["self", "node"] (defScope s_Sheet_turned) := ⟨rfl, rfl, rfl, by decide +kernel, rfl, by decide +kernel, by decide +kernel⟩
structure TTurn (K : PySem.W.Frag) (mg : Str → Option Value) (cl : Cl) (xc : Xc) (cs : Addr) : Prop where
  sh : TSh K mg cl xc cs
  m_turned : MethAt K cs "turned" "Sheet.turned" s_Sheet_turned ["self", "node"]
  z_len : mg "len" = none
section
variable {P : Program} {w : World} {K : PySem.W.Frag} {mg : Str → Option Value} {base : Heap} {cl : Cl} {xc : Xc} {cs : Addr}
def spTurned (cs : Addr) : Sp := fun vs H Q _ => ∃ (x dx tn ln dn : Addr) (names : List Str) (ns ns' : List Sh.Nd) (a r : Nat), vs = [.ref x, .int a] ∧ ShO cs H x dx tn ln dn names ns ∧ Sh.Wf names.length ns ∧ names.length ≤ 60 ∧ a < ns.length + 2 ∧
  (∃ kn', Sh.opp 61 ns (fun _ => none) a = some (r, ns', kn')) ∧ ns'.length ≤ 2000 ∧ ∀ H', K3 ln dn dn H H' → ShO cs H' x dx tn ln dn names ns' → Q (.int r) H'
theorem disp_turned (T : TTurn K mg cl xc cs) : DispAt P w K mg base CX0 (fun C => C = cs) "turned" 65 ["self", "node"] (fun _ => spTurned cs) := by
  have GX_opposite : DispAt P w K mg base (L2.CX P w) (fun C => C = cs) "opposite" 64 ["self", "node", "known"] (fun _ => spOpp cs xc 61) := disp_opp T.sh.dr.opp 61
  have G_need := (disp_need (P := P) (w := w) (base := base) T.sh).calm
  refine ⟨fun C hC => ?_⟩
  subst hC
  refine methAt_ok T.sh.dr.opp.sh.c_Sheet.cl T.m_turned sc_Sheet_turned (fun vs H Q E h => ?_) (fun fa cdv A outer st H vs Q E hr h => ?_)
  · obtain ⟨x, dx, tn, ln, dn, names, ns, ns', a, r, rfl, _⟩ := h; rfl
  · obtain ⟨x, dx, tn, ln, dn, names, ns, ns', a, r, rfl, s, wf, hl, ha, ⟨kn', hj⟩, hle, q⟩ := h
    have hu := hu_of hr
    refine ⟨_, (pss_cons (ps_expr (pe_methD G_need hr pass0 (pv 0) (pa_cons (pv 1) pa_nil)))
        (pss_cons (ps_set (i := 2) sc_Sheet_turned.nd rfl (by first | exact Or.inl rfl | exact Or.inr rfl) (pe_callB call_len_seq (by rfl) T.z_len PySem.boot_len (pa_cons (pe_fld (pv 0) rfl) pa_nil)))
        (pss_one (ps_try_calm rfl (fun W pn xe tk _ => (pss_one (ps_ret (pe_methT GX_opposite hr tk (pv 0) (pa_cons (pv 1) (pa_cons pe_dnewK pa_nil)))))))))), ?_⟩
    walk_at "rd"
    obtain ⟨vs, h1, h2⟩ := s.hl
    refine ⟨_, rfl, x, C, dx, _, rfl, s.ob, rfl, lkSn (by decide +kernel), _, rfl, x, dx, tn, ln, dn, names, ns, (a : Int), rfl, s, fun _ => ?_, (fun h => absurd ⟨by omega, by omega⟩ h)⟩
    refine ⟨_, rfl, x, _, dx, _, _, rfl, s.ob, T.sh.dr.opp.sh.c_Sheet.cl, T.sh.dr.opp.sh.n_nodes, lkS2, ln, rfl, _, .inl (SqL.of h1), ?_⟩
    refine ⟨_, rfl, x, C, dx, _, rfl, s.ob, rfl, lkSn (by decide +kernel), _, rfl, fun kd nkd => ?_⟩
    refine ⟨x, dx, tn, ln, dn, kd, names, ns, ns', fun _ => none, kn', [], a, r, rfl, s.keep (Same.new nkd), wf, Sh.Kn1Ok.nil, upd_same, Kn1V.nil, ha, by omega, hj, fun _ H3 kvs3 k3 s3 _ _ => ?_, fun g => absurd g (by omega)⟩
    exact q H3 (K3.drop (Same.new nkd) k3 nkd) s3
end

/-! ## sheets, step by step: what a node tells -/
def SemN (N : List Sh.Nd) (r : Nat) (g : (Nat → Bool) → Bool) : Prop := r < N.length + 2 ∧ ∀ b, Sh.ev N r b = g b
def ExtN (N M : List Sh.Nd) : Prop := ∃ m, M = N ++ m
theorem ExtN.refl (N : List Sh.Nd) : ExtN N N := ⟨[], (List.append_nil N).symm⟩
theorem ExtN.trans {N M L : List Sh.Nd} : ExtN N M → ExtN M L → ExtN N L
  | ⟨m, e⟩, ⟨k, f⟩ => ⟨m ++ k, by rw [f, e, List.append_assoc]⟩
theorem SemN.more {n : Nat} {N M : List Sh.Nd} {r : Nat} {g : (Nat → Bool) → Bool} (h : SemN N r g) (w : Sh.Wf n N) (w2 : Sh.Wf n M) (x : ExtN N M) : SemN M r g := by
  obtain ⟨m, rfl⟩ := x
  exact ⟨by rw [List.length_append]; have := h.1; omega, fun b => by rw [w.ev_app w2 r h.1, h.2]⟩
theorem SemN.one {n : Nat} {N : List Sh.Nd} {r s : Nat} {g : (Nat → Bool) → Bool} (w : Sh.Wf n N) (h : SemN N r g) (k : SemN N s g) : r = s := w.canon h.1 k.1 fun b => by rw [h.2, k.2]
theorem join_step {n stop : Nat} {N : List Sh.Nd} {a c : Nat} {g h : (Nat → Bool) → Bool} (hn : n ≤ 60) (hs : stop < 2) (w : Sh.Wf n N) (ha : SemN N a g) (hc : SemN N c h) :
    ∃ r M, (∃ kn, Sh.join n stop 61 N (fun _ _ => none) a c = some (r, M, kn)) ∧ Sh.Wf n M ∧ ExtN N M ∧ SemN M r (fun b => Sh.op2 stop (g b) (h b)) ∧ M.length ≤ N.length + (2 ^ n - 1) ∧ ∀ r0, SemN N r0 (fun b => Sh.op2 stop (g b) (h b)) → M = N ∧ r = r0 := by
  obtain ⟨r, m, kn, e, w2, _, h1, h2, _, h4, h5⟩ := Sh.Wf.join hs 61 N (fun _ _ => none) a c w Sh.KnOk.nil ha.1 hc.1 (by omega)
  refine ⟨r, N ++ m, ⟨kn, e⟩, w2, ⟨m, rfl⟩, ⟨h1, fun b => by rw [h2, ha.2, hc.2]⟩, ?_, fun r0 h0 => ?_⟩
  · have : 2 ^ (n - min (Sh.pl n N a) (Sh.pl n N c)) ≤ 2 ^ n := Nat.pow_le_pow_right (by omega) (by omega)
    rw [List.length_append]
    omega
  · obtain ⟨rfl, rfl⟩ := Sh.last_old w w2 h4 h1 h0.1 fun b => by rw [h2, h0.2, ha.2, hc.2]
    exact ⟨List.append_nil N, rfl⟩
theorem opp_step {n : Nat} {N : List Sh.Nd} {a : Nat} {g : (Nat → Bool) → Bool} (hn : n ≤ 60) (w : Sh.Wf n N) (ha : SemN N a g) :
    ∃ r M, (∃ kn, Sh.opp 61 N (fun _ => none) a = some (r, M, kn)) ∧ Sh.Wf n M ∧ ExtN N M ∧ SemN M r (fun b => !g b) ∧ M.length ≤ N.length + (2 ^ n - 1) ∧ ∀ r0, SemN N r0 (fun b => !g b) → M = N ∧ r = r0 := by
  obtain ⟨r, m, kn, e, w2, _, h1, h2, _, h4, h5⟩ := Sh.Wf.opp (n := n) 61 N (fun _ => none) a w Sh.Kn1Ok.nil ha.1 (by omega)
  refine ⟨r, N ++ m, ⟨kn, e⟩, w2, ⟨m, rfl⟩, ⟨h1, fun b => by rw [h2, ha.2]⟩, ?_, fun r0 h0 => ?_⟩
  · have : 2 ^ (n - Sh.pl n N a) ≤ 2 ^ n := Nat.pow_le_pow_right (by omega) (by omega)
    rw [List.length_append]
    omega
  · obtain ⟨rfl, rfl⟩ := Sh.last_old w w2 h4 h1 h0.1 fun b => by rw [h2, h0.2, ha.2]
    exact ⟨List.append_nil N, rfl⟩
theorem draw_step {l : List Str} {c : Cond} {N : List Sh.Nd} (hl : l.length ≤ 60) (w : Sh.Wf l.length N) (hw : c.within l = true) :
    ∃ r M, draw l c N = some (r, M) ∧ Sh.Wf l.length M ∧ ExtN N M ∧ SemN M r (fun b => c.holds (imB l b)) ∧ M.length ≤ N.length + c.cost (2 ^ l.length - 1) ∧ ∀ L, Sh.Wf l.length L → ExtN M L → draw l c L = some (r, L) := by
  obtain ⟨r, m, e, w2, h1, h2, h3, h4⟩ := draw_ok hl c N w hw
  exact ⟨r, N ++ m, e, w2, ⟨m, rfl⟩, ⟨h1, h2⟩, by rw [List.length_append]; omega, fun L wL ⟨k, hk⟩ => by subst hk; exact h4 k wL⟩
/-- a group of two that are there, where it is there: nothing is made -/
theorem grp_again {l : List Str} {c d : Cond} {s : Bool} {N : List Sh.Nd} {r1 r2 r0 : Nat} (hl : l.length ≤ 60) (w : Sh.Wf l.length N) (e1 : draw l c N = some (r1, N)) (e2 : draw l d N = some (r2, N))
    (h1 : SemN N r1 (fun b => c.holds (imB l b))) (h2 : SemN N r2 (fun b => d.holds (imB l b))) (h0 : SemN N r0 (fun b => Sh.op2 (stopOf s) (c.holds (imB l b)) (d.holds (imB l b)))) : draw l (.grp s [c, d]) N = some (r0, N) := by
  have hs := stopOf_lt s
  have h3 : SemN N (1 - stopOf s) (fun _ => s) := ⟨by omega, fun b => by rw [Sh.ev_low (by omega)]; cases s <;> rfl⟩
  obtain ⟨x, M, ⟨kn, e3⟩, _, _, _, _, k3⟩ := join_step hl hs w h3 h1
  obtain ⟨rfl, rfl⟩ := k3 r1 ⟨h1.1, fun b => by rw [h1.2]; cases s <;> simp [Sh.op2, stopOf]⟩
  obtain ⟨y, M, ⟨kn', e4⟩, _, _, _, _, k4⟩ := join_step hl hs w h1 h2
  obtain ⟨rfl, rfl⟩ := k4 r0 h0
  rw [draw, draws, e1]
  dsimp only
  rw [e3]
  dsimp only
  rw [draws, e2]
  dsimp only
  rw [e4]
  dsimp only
  rw [draws]
theorem not_again {l : List Str} {c : Cond} {N : List Sh.Nd} {r1 r0 : Nat} (hl : l.length ≤ 60) (w : Sh.Wf l.length N) (e1 : draw l c N = some (r1, N)) (h1 : SemN N r1 (fun b => c.holds (imB l b))) (h0 : SemN N r0 (fun b => !c.holds (imB l b))) : draw l (.not c) N = some (r0, N) := by
  obtain ⟨y, M, ⟨kn', e4⟩, _, _, _, _, k4⟩ := opp_step hl w h1
  obtain ⟨rfl, rfl⟩ := k4 r0 h0
  rw [draw, e1]
  dsimp only
  rw [e4]
theorem ShO.fresh {C x dx tn ln dn : Addr} {H : Hp} {names : List Str} {ns : List Sh.Nd} {p : Addr} (s : ShO C H x dx tn ln dn names ns) (np : H p = none) : p ≠ ln ∧ p ≠ dn := by
  obtain ⟨vs, h1, _⟩ := s.hl
  exact ⟨(ne_of_none h1 np).symm, (ne_of_none s.hd np).symm⟩

def bitN (k i : Nat) : Bool := k / 2 ^ i % 2 == 1
/-! ## sheets: at how many rows a node holds -/
def cntF (n : Nat) (ns : List Sh.Nd) : Nat → Nat → Nat
  | 0, _ => 0
  | f + 1, k => if k < 2 then k else match ns[k - 2]? with
    | some (p, l, h) => cntF n ns f l * 2 ^ (Sh.pl n ns l - p - 1) + cntF n ns f h * 2 ^ (Sh.pl n ns h - p - 1)
    | none => 0
def cntN (n : Nat) (ns : List Sh.Nd) (k : Nat) : Nat := cntF n ns (k + 1) k
theorem cntF_more {n : Nat} {ns : List Sh.Nd} (w : Sh.Wf n ns) : ∀ (f k : Nat), k < f → cntF n ns f k = cntF n ns (k + 1) k := by
  intro f
  induction f using Nat.strongRecOn with
  | _ f ih =>
    intro k hk
    obtain ⟨g, rfl⟩ : ∃ g, f = g + 1 := ⟨f - 1, by omega⟩
    simp only [cntF]
    by_cases h2 : k < 2
    · rw [if_pos h2, if_pos h2]
    · rw [if_neg h2, if_neg h2]
      cases e : ns[k - 2]? with
      | none => rfl
      | some t =>
        obtain ⟨p, l, h⟩ := t
        obtain ⟨_, _, hl, hh, _⟩ := w.kids (by omega) e
        have fixd : ∀ x, x < k → cntF n ns g x = cntF n ns k x := fun x hx => by
          by_cases hgk : g = k
          · rw [hgk]
          · rw [ih g (by omega) _ (by omega), ih k (by omega) _ hx]
        show cntF n ns g l * _ + cntF n ns g h * _ = cntF n ns k l * _ + cntF n ns k h * _
        rw [fixd l hl, fixd h hh]
theorem cnt_low {n : Nat} {ns : List Sh.Nd} {k : Nat} (h : k < 2) : cntN n ns k = k := by
  unfold cntN cntF
  rw [if_pos h]
theorem cnt_at {n : Nat} {ns : List Sh.Nd} (w : Sh.Wf n ns) {k p l h : Nat} (h2 : 2 ≤ k) (e : ns[k - 2]? = some (p, l, h)) : cntN n ns k = cntN n ns l * 2 ^ (Sh.pl n ns l - p - 1) + cntN n ns h * 2 ^ (Sh.pl n ns h - p - 1) := by
  obtain ⟨_, _, hl, hh, _⟩ := w.kids h2 e
  show cntF n ns (k + 1) k = _
  rw [cntF, if_neg (by omega), e]
  show cntF n ns k l * _ + cntF n ns k h * _ = _
  rw [cntF_more w k l hl, cntF_more w k h hh]
  rfl
/-- by the bits from p on, one by one -/
def cntA (g : (Nat → Bool) → Bool) : Nat → Nat → (Nat → Bool) → Nat
  | 0, _, b => if g b then 1 else 0
  | j + 1, p, b => cntA g j (p + 1) (Sh.setb b p false) + cntA g j (p + 1) (Sh.setb b p true)
theorem cntA_congr {g g' : (Nat → Bool) → Bool} : ∀ (j p : Nat) (b : Nat → Bool), (∀ b', (∀ q, q < p → b' q = b q) → g b' = g' b') → cntA g j p b = cntA g' j p b
  | 0, p, b, h => by rw [cntA, cntA, h b fun _ _ => rfl]
  | j + 1, p, b, h => by
    have hs : ∀ v, cntA g j (p + 1) (Sh.setb b p v) = cntA g' j (p + 1) (Sh.setb b p v) := fun v =>
      cntA_congr j (p + 1) _ fun b' hb => h b' fun q hq => by rw [hb q (by omega), Sh.setb_ne (by omega)]
    rw [cntA, cntA, hs, hs]
theorem cntA_node {n : Nat} {ns : List Sh.Nd} (w : Sh.Wf n ns) : ∀ (j p k : Nat) (b : Nat → Bool), k < ns.length + 2 → p + j = n → p ≤ Sh.pl n ns k → cntA (Sh.ev ns k) j p b = cntN n ns k * 2 ^ (Sh.pl n ns k - p)
  | 0, p, k, b, hk, hn, hp => by
    have h2 : k < 2 := by
      by_cases h2 : k < 2
      · exact h2
      · have := w.pl_lt (show 2 ≤ k by omega) hk
        omega
    rw [cntA, Sh.ev_low h2, cnt_low h2, Sh.pl_low h2]
    rcases (show k = 0 ∨ k = 1 by omega) with rfl | rfl
    · simp
    · rw [show n - p = 0 by omega]
      rfl
  | j + 1, p, k, b, hk, hn, hp => by
    rw [cntA]
    by_cases hpk : p < Sh.pl n ns k
    · rw [cntA_node w j (p + 1) k _ hk (by omega) (by omega), cntA_node w j (p + 1) k _ hk (by omega) (by omega)]
      have : Sh.pl n ns k - p = (Sh.pl n ns k - (p + 1)) + 1 := by omega
      rw [this, Nat.pow_succ, ← Nat.mul_assoc]
      omega
    · have h2 : 2 ≤ k := by
        by_cases h2 : k < 2
        · rw [Sh.pl_low h2] at hpk; omega
        · omega
      obtain ⟨p', l, h, e⟩ := Sh.at_some h2 hk
      have ep := Sh.pl_at (n := n) h2 e
      obtain rfl : p' = p := by omega
      obtain ⟨_, _, hl, hh, pl_, ph_⟩ := w.kids h2 e
      have hs : ∀ v, cntA (Sh.ev ns k) j (p' + 1) (Sh.setb b p' v) = cntA (Sh.ev ns (if v then h else l)) j (p' + 1) (Sh.setb b p' v) := fun v =>
        cntA_congr j (p' + 1) _ fun b' hb => by
          have := hb p' (by omega)
          rw [Sh.setb_at] at this
          rw [w.ev_at b' h2 e, this]
      rw [hs, hs, if_neg Bool.false_ne_true, if_pos rfl, cntA_node w j (p' + 1) l _ (by omega) (by omega) (by omega), cntA_node w j (p' + 1) h _ (by omega) (by omega) (by omega), cnt_at w h2 e, ep, Nat.sub_self, Nat.pow_zero, Nat.mul_one,
        show Sh.pl n ns l - (p' + 1) = Sh.pl n ns l - p' - 1 by omega, show Sh.pl n ns h - (p' + 1) = Sh.pl n ns h - p' - 1 by omega]
theorem countP_double (f : Nat → Bool) : ∀ m : Nat, (List.range (2 * m)).countP f = (List.range m).countP (fun k => f (2 * k)) + (List.range m).countP (fun k => f (2 * k + 1))
  | 0 => rfl
  | m + 1 => by
    rw [show 2 * (m + 1) = 2 * m + 1 + 1 by omega, List.range_succ, List.range_succ, List.range_succ, List.countP_append, List.countP_append, List.countP_append, List.countP_append, countP_double f m]
    simp only [List.countP_singleton]
    omega
theorem bitN_double (k q : Nat) (v : Bool) : bitN (2 * k + (if v then 1 else 0)) (q + 1) = bitN k q := by
  unfold bitN
  rw [Nat.pow_succ', ← Nat.div_div_eq_div_mul]
  have : (2 * k + (if v then 1 else 0)) / 2 = k := by split <;> omega
  rw [this]
theorem bitN_zero (k : Nat) (v : Bool) : bitN (2 * k + (if v then 1 else 0)) 0 = v := by
  unfold bitN
  rw [Nat.pow_zero, Nat.div_one]
  cases v
  · rw [if_neg Bool.false_ne_true]
    have : (2 * k + 0) % 2 = 0 := by omega
    rw [this]; rfl
  · rw [if_pos rfl]
    have : (2 * k + 1) % 2 = 1 := by omega
    rw [this]; rfl
/-- from p on the bits of a number -/
def fromN (b : Nat → Bool) (p k : Nat) : Nat → Bool := fun q => if q < p then b q else bitN k (q - p)
theorem fromN_step (b : Nat → Bool) (p k : Nat) (v : Bool) : fromN b p (2 * k + (if v then 1 else 0)) = fromN (Sh.setb b p v) (p + 1) k := by
  funext q
  unfold fromN
  by_cases h : q < p
  · rw [if_pos h, if_pos (show q < p + 1 by omega), Sh.setb_ne (by omega)]
  · rw [if_neg h]
    by_cases h2 : q = p
    · subst h2
      rw [if_pos (show q < q + 1 by omega), Sh.setb_at, Nat.sub_self, bitN_zero]
    · rw [if_neg (show ¬ q < p + 1 by omega), show q - p = (q - (p + 1)) + 1 by omega, bitN_double]
theorem cntA_range {g : (Nat → Bool) → Bool} {n : Nat} (hg : ∀ b b', (∀ q, q < n → b q = b' q) → g b = g b') : ∀ (j p : Nat) (b : Nat → Bool), p + j = n → cntA g j p b = (List.range (2 ^ j)).countP fun k => g (fromN b p k)
  | 0, p, b, hn => by
    have e : g (fromN b p 0) = g b := hg _ _ fun q hq => by unfold fromN; rw [if_pos (by omega)]
    rw [cntA, Nat.pow_zero, show List.range 1 = [0] from rfl, List.countP_singleton, e]
  | j + 1, p, b, hn => by
    rw [cntA, cntA_range hg j (p + 1) _ (by omega), cntA_range hg j (p + 1) _ (by omega), Nat.pow_succ', countP_double]
    congr 1
    · congr 1; funext k; rw [← fromN_step]; rfl
    · congr 1; funext k; rw [← fromN_step]; rfl
theorem ev_dep {n : Nat} {ns : List Sh.Nd} (w : Sh.Wf n ns) {b b' : Nat → Bool} (hb : ∀ q, q < n → b q = b' q) : ∀ k, k < ns.length + 2 → Sh.ev ns k b = Sh.ev ns k b' := by
  intro k
  induction k using Nat.strongRecOn with
  | _ k ih =>
    intro hk
    by_cases h2 : k < 2
    · rw [Sh.ev_low h2, Sh.ev_low h2]
    · obtain ⟨p, l, h, e⟩ := Sh.at_some (by omega) hk
      obtain ⟨hp, _, hl, hh, _⟩ := w.kids (by omega) e
      rw [w.ev_at b (by omega) e, w.ev_at b' (by omega) e, hb p hp]
      split
      · exact ih h hh (by omega)
      · exact ih l hl (by omega)
/-- the ways of a node: at how many of all rows it holds -/
theorem ways_rows {n : Nat} {ns : List Sh.Nd} (w : Sh.Wf n ns) {k : Nat} (hk : k < ns.length + 2) : cntN n ns k * 2 ^ Sh.pl n ns k = (List.range (2 ^ n)).countP fun i => Sh.ev ns k (bitN i) := by
  have h1 := cntA_node w n 0 k (fun _ => false) hk (by omega) (by omega)
  rw [Nat.sub_zero] at h1
  rw [← h1, cntA_range (fun b b' h => ev_dep w h k hk) n 0 _ (by omega)]
  congr 1
theorem cnt_le {n : Nat} {ns : List Sh.Nd} (w : Sh.Wf n ns) {k : Nat} (hk : k < ns.length + 2) : cntN n ns k ≤ 2 ^ n := by
  have h1 := ways_rows w hk
  have h2 : (List.range (2 ^ n)).countP (fun i => Sh.ev ns k (bitN i)) ≤ 2 ^ n := by
    have := List.countP_le_length (p := fun i => Sh.ev ns k (bitN i)) (l := List.range (2 ^ n))
    rwa [List.length_range] at this
  have h3 : cntN n ns k ≤ cntN n ns k * 2 ^ Sh.pl n ns k := Nat.le_mul_of_pos_right _ Nat.one_le_two_pow
  omega

--%% MD
/-! ## rows of truths, held against each other -/
theorem shaped_of {d : PyData} (h : d.canLay0 = true) (hd : d.depth ≤ 64) : SeqAt.shaped d = true := by
  unfold SeqAt.shaped
  rw [h, decide_eq_true hd]
  rfl
theorem bools_dp {K : PySem.W.Frag} {H : Hp} : ∀ l : List Bool, DpAll K H (l.map V.bl) (l.map PyData.bool)
  | [] => .nil
  | n :: l => .cons (.bl n) (bools_dp l)
theorem bools_lay : ∀ {l : List Bool}, PyData.canLayAll0 (l.map PyData.bool) = true
  | [] => rfl
  | n :: l => by
    show (true && PyData.canLayAll0 (l.map PyData.bool)) = true
    rw [bools_lay]
    rfl
theorem bools_flat : ∀ l : List Bool, PyData.depthAll (l.map PyData.bool) = 0
  | [] => rfl
  | n :: l => by
    rw [List.map_cons, PyData.depthAll, bools_flat l]
    rfl
theorem bools_shaped {l : List Bool} : SeqAt.shaped (.tuple (l.map PyData.bool)) = true := shaped_of bools_lay (by rw [PyData.depth, bools_flat]; omega)
theorem bools_eqv {l : List Bool} : PyData.eqv (.tuple (l.map PyData.bool)) (.tuple (l.map PyData.bool)) = true := SeqAt.eqv_refl _ bools_lay

/-! ## lists of numbers -/
def natV (l : List Nat) : List V := l.map fun n : Nat => V.int n
theorem natV_app (a b : List Nat) : natV (a ++ b) = natV a ++ natV b := List.map_append
theorem natV_len (a : List Nat) : (natV a).length = a.length := List.length_map _
theorem inV_nat (n : Nat) : ∀ l : List Nat, inV (.int n) (natV l) = decide (n ∈ l)
  | [] => rfl
  | y :: l => by
    have ih := inV_nat n l
    unfold inV natV at ih ⊢
    rw [List.map_cons, List.any_cons, ih, Bool.eq_iff_iff]
    simp only [Bool.or_eq_true, decide_eq_true_eq, List.mem_cons, eqV, beq_iff_eq]
    constructor
    · rintro (h | h)
      · left; omega
      · exact .inr h
    · rintro (h | h)
      · left; omega
      · exact .inr h
theorem flat_nat : ∀ l : List Nat, (natV l).all flatV = true
  | [] => rfl
  | _ :: l => flat_nat l
theorem nat_dp {K : PySem.W.Frag} {H : Hp} : ∀ l : List Nat, DpAll K H (natV l) (l.map fun n : Nat => PyData.int n)
  | [] => .nil
  | n :: l => .cons (.int _) (nat_dp l)
theorem nat_lay : ∀ l : List Nat, PyData.canLayAll0 (l.map fun n : Nat => PyData.int n) = true
  | [] => rfl
  | n :: l => by
    show (true && PyData.canLayAll0 (l.map fun n : Nat => PyData.int n)) = true
    rw [nat_lay l]
    rfl
theorem nat_flat : ∀ l : List Nat, PyData.depthAll (l.map fun n : Nat => PyData.int n) = 0
  | [] => rfl
  | n :: l => by
    rw [List.map_cons, PyData.depthAll, nat_flat l]
    rfl
theorem nat_shaped (l : List Nat) : SeqAt.shaped (.list (l.map fun n : Nat => PyData.int n)) = true := shaped_of (nat_lay l) (by rw [PyData.depth, nat_flat]; omega)
theorem nat_eqv (l : List Nat) : PyData.eqv (.list (l.map fun n : Nat => PyData.int n)) (.list (l.map fun n : Nat => PyData.int n)) = true := SeqAt.eqv_refl _ (nat_lay l)

/-! ## sheets: counted, ways -/
abbrev s_Sheet_counted : Stmt := inClass (top 33) 16
theorem sc_Sheet_counted : FnScope ["self", "node", "known", "place", "low", "high", "found", "inner"] ["self", "node", "known"] (defScope s_Sheet_counted) := ⟨rfl, rfl, rfl, by decide +kernel, rfl, by decide +kernel, by decide +kernel⟩
abbrev s_Sheet_ways : Stmt := inClass (top 33) 17
theorem sc_Sheet_ways : FnScope ["self", "node"] ["self", "node"] (defScope s_Sheet_ways) := ⟨rfl, rfl, rfl, by decide +kernel, rfl, by decide +kernel, by decide +kernel⟩
structure TWays (K : PySem.W.Frag) (mg : Str → Option Value) (cl : Cl) (xc : Xc) (cs : Addr) : Prop where
  sh : TSh K mg cl xc cs
  m_counted : MethAt K cs "counted" "Sheet.counted" s_Sheet_counted ["self", "node", "known"]
  m_ways : MethAt K cs "ways" "Sheet.ways" s_Sheet_ways ["self", "node"]
section
variable {P : Program} {w : World} {K : PySem.W.Frag} {mg : Str → Option Value} {base : Heap} {cl : Cl} {xc : Xc} {cs : Addr}
def CntOk (n : Nat) (ns : List Sh.Nd) (kn : Sh.Kn1) : Prop := ∀ a r, kn a = some r → r = cntN n ns a
def spCounted (cs : Addr) (f : Nat) : Sp := fun vs H Q _ => ∃ (x dx tn ln dn kd : Addr) (names : List Str) (ns : List Sh.Nd) (kn : Sh.Kn1) (kvs : List (Key × V)) (a : Nat), vs = [.ref x, .int a, .ref kd] ∧
  ShO cs H x dx tn ln dn names ns ∧ Sh.Wf names.length ns ∧ names.length ≤ 60 ∧ CntOk names.length ns kn ∧ H kd = some (.dK kvs) ∧ Kn1V kvs kn ∧ a < ns.length + 2 ∧ names.length < f + Sh.pl names.length ns a ∧
  ∀ H' kvs' kn', K3 kd kd kd H H' → H' kd = some (.dK kvs') → Kn1V kvs' kn' → CntOk names.length ns kn' → Q (.int (cntN names.length ns a : Nat)) H'
theorem ok_counted (T : TWays K mg cl xc cs) {f k : Nat} (G_counted : DispAt P w K mg base CX0 (fun C => C = cs) "counted" k ["self", "node", "known"] (fun _ => spCounted cs f)) (hk : 3 ≤ k) :
    DispAt P w K mg base CX0 (fun C => C = cs) "counted" (k + 1) ["self", "node", "known"] (fun _ => spCounted cs (f + 1)) := by
  have G_place : DispAt P w K mg base CX0 (fun C => C = cs) "place" 1 ["self", "node"] (fun _ => spPlace cs) := disp_place T.sh.dr.opp.sh
  refine ⟨fun C hC => ?_⟩
  subst hC
  refine methAt_ok T.sh.dr.opp.sh.c_Sheet.cl T.m_counted sc_Sheet_counted (fun vs H Q E h => ?_) (fun fa cdv A outer st H vs Q E hr h => ?_)
  · obtain ⟨x, dx, tn, ln, dn, kd, names, ns, kn, kvs, a, rfl, _⟩ := h; rfl
  · obtain ⟨x, dx, tn, ln, dn, kd, names, ns, kn, kvs, a, rfl, s, wf, hl60, hkn, hkd, kv, ha, hf, q⟩ := h
    have hu := hu_of hr
    refine ⟨_, (pss_cons (ps_if (pt_cmpR op_lt (pv 1) pe_int (nomark _)) (pss_one (ps_ret (pv 1))) pss_nil)
        (C8.pss_cut (ps_if (pt_cmp (pc_dnotin hu (pv 1) (pv 2))) (pss_cons (ps_asg (pe_ix ix_list (pe_fld (pv 0) rfl) (pe_op op_sub (pv 1) pe_int) (fun _ _ => rfl)) (pg_tup rfl (pgs_cons (pg_name (i := 3) sc_Sheet_counted.nd rfl (by first | exact Or.inl rfl | exact Or.inr rfl)) (pgs_cons (pg_name (i := 4) sc_Sheet_counted.nd rfl (by first | exact Or.inl rfl | exact Or.inr rfl)) (pgs_cons (pg_name (i := 5) sc_Sheet_counted.nd rfl (by first | exact Or.inl rfl | exact Or.inr rfl)) pgs_nil)))))
          (pss_cons (ps_set (i := 6) sc_Sheet_counted.nd rfl (by first | exact Or.inl rfl | exact Or.inr rfl) pe_int)
          (pss_cons (ps_for PassesOwn.never rfl (pi_tup (pe_tup (pa_cons (pv 4) (pa_cons (pv 5) pa_nil)))) (pg_name (i := 7) sc_Sheet_counted.nd rfl (by first | exact Or.inl rfl | exact Or.inr rfl)) (pss_one (ps_aug (i := 6) sc_Sheet_counted.nd rfl (by first | exact Or.inl rfl | exact Or.inr rfl) (pe_op op_shl (pe_methD G_counted hr pass0 (pv 0) (pa_cons (pv 7) (pa_cons (pv 2) pa_nil)) (Nat.le_refl _)) (pe_op op_sub (pe_op op_sub (pe_methD G_place hr pass0 (pv 0) (pa_cons (pv 7) pa_nil) (by omega)) (pv 3)) pe_int)) iop_add)))
          (pss_one (ps_dput hu (pv 2) (pv 1) (pv 6) rfl))))) pss_nil)
        (pss_one (ps_ret (pe_dget (by exact hu) (pv 2) (pv 1) (fun _ _ => rfl)))))), ?_⟩
    walk_at "rd"
    by_cases e1 : a < 2
    · rw [decide_eq_true (show (a : Int) < 2 by omega)]
      rw [cnt_low e1] at q
      exact iteT (q H kvs kn (K3.refl H) hkd kv hkn)
    rw [decide_eq_false (show ¬ (a : Int) < 2 by omega)]
    refine iteF ?_
    have hle := s.le
    refine ⟨fun σ' H' => ∃ (v3 v4 v5 v6 v7 : Option V) (kvs' : List (Key × V)) (kn' : Sh.Kn1), σ' = [some (.ref x), some (.int a), some (.ref kd), v3, v4, v5, v6, v7] ∧ K3 kd kd kd H H' ∧ H' kd = some (.dK kvs') ∧ Kn1V kvs' kn' ∧ CntOk names.length ns kn' ∧ kn' a = some (cntN names.length ns a), ?_, ?_⟩
    · walk_at "rd"
      refine ⟨_, rfl, _, rfl, kd, _, rfl, DGet.k (k := .inl (a : Int)) hkd, ?_⟩
      rw [kv.get]
      cases hk2 : kn a with
      | some r' =>
        have := hkn a r' hk2
        subst this
        exact ⟨false, rfl, iteF ⟨_, _, _, _, _, ⟨rfl, rfl, rfl, rfl, rfl⟩, K3.refl H, kvs, hkd, kn, kv, hkn, hk2⟩⟩
      | none =>
        refine ⟨true, rfl, iteT ?_⟩
        have ha2 : 2 ≤ a := by omega
        obtain ⟨p, lo, hi, e⟩ := Sh.at_some ha2 ha
        obtain ⟨hpn, hlh, hlo, hhi, plo, phi⟩ := wf.kids ha2 e
        have ep := Sh.pl_at (n := names.length) ha2 e
        rw [ep] at hf
        obtain ⟨vs, t, h1, h3, h4, h5⟩ := s.at ha2 e
        refine ⟨_, rfl, x, _, dx, _, _, rfl, s.ob, T.sh.dr.opp.sh.c_Sheet.cl, T.sh.dr.opp.sh.n_nodes, lkS2, ln, vs, _, .ref t, rfl, rfl, SqL.of h1, h3, t, [.int p, .int lo, .int hi], rfl, SqT.of h4, rfl, ?_⟩
        walk_at "rd"
        refine ⟨_, rfl, _, rfl, line_ge (by simp), fun t2 nt2 => ?_⟩
        have s1 := Same.new (o := .tup [.int (lo : Int), .int (hi : Int)]) nt2
        have ht2 : upd H t2 (.tup [.int (lo : Int), .int (hi : Int)]) t2 = some (.tup [.int (lo : Int), .int (hi : Int)]) := upd_same
        have hkd1 := s1 _ _ hkd
        have sh1 := s.keep s1
        have tk : t2 ≠ kd := (ne_of hkd1 ht2 (by intro h; cases h)).symm
        let term : Nat → Nat := fun c => cntN names.length ns c * 2 ^ (Sh.pl names.length ns c - p - 1)
        refine ⟨t2, rfl, ⟨_, SqT.of ht2⟩, for_tup (K := K) (a := t2) (xs := natV [lo, hi]) (fun i σ H' => ∃ (v7 : Option V) (kvs' : List (Key × V)) (kn' : Sh.Kn1), σ = [some (.ref x), some (.int a), some (.ref kd), some (.int p), some (.int lo), some (.int hi), some (.int (((([lo, hi].take i).map term).sum : Nat) : Int)), v7] ∧ K3 kd kd kd (upd H t2 (.tup [.int (lo : Int), .int (hi : Int)])) H' ∧ H' kd = some (.dK kvs') ∧ Kn1V kvs' kn' ∧ CntOk names.length ns kn') ⟨none, kvs, kn, rfl, K3.refl _, hkd1, kv, hkn⟩ (fun i σ H' _ ⟨_, _, _, _, k, _⟩ => SqT.of (k _ _ ht2 tk tk tk)) ?_ ?_⟩
        · rintro i y σ H2 hy ⟨v7, kvs', kn', rfl, k2, hkd2, kv2, hkn2⟩
          unfold natV at hy
          rw [List.getElem?_map] at hy
          obtain ⟨c, hc, rfl⟩ := Option.map_eq_some_iff.mp hy
          obtain ⟨hca, hpc⟩ : c < a ∧ p < Sh.pl names.length ns c := by
            have := List.mem_of_getElem? hc
            simp only [List.mem_cons, List.not_mem_nil, or_false] at this
            rcases this with rfl | rfl
            · exact ⟨hlo, plo⟩
            · exact ⟨hhi, phi⟩
          have sh2 : ShO C H2 x dx tn ln dn names ns := sh1.far k2 hkd1 (fun _ _ _ e => by cases e) (fun _ e => by cases e) (fun _ _ e => by cases e) (sh1.n_ln hkd1 fun _ e => by cases e) (sh1.n_dn hkd1 fun _ e => by cases e)
          walk_at "rd"
          have hct := cnt_le wf (show c < ns.length + 2 by omega)
          have h60 : 2 ^ names.length ≤ 2 ^ 60 := Nat.pow_le_pow_right (by decide) hl60
          refine ⟨_, rfl, x, C, dx, _, rfl, sh2.ob, rfl, lkSn (by decide +kernel), _, rfl, _, rfl, x, dx, tn, ln, dn, kd, names, ns, kn', kvs', c, rfl, sh2, wf, hl60, hkn2, hkd2, kv2, by omega, by omega, fun H3 kvs3 kn3 k3 hkd3 kv3 hkn3 => ?_⟩
          have sh3 : ShO C H3 x dx tn ln dn names ns := sh2.far k3 hkd2 (fun _ _ _ e => by cases e) (fun _ e => by cases e) (fun _ _ e => by cases e) (sh2.n_ln hkd2 fun _ e => by cases e) (sh2.n_dn hkd2 fun _ e => by cases e)
          refine ⟨_, rfl, x, C, dx, _, rfl, sh3.ob, rfl, lkSn (by decide +kernel), _, rfl, x, dx, tn, ln, dn, names, ns, c, rfl, sh3, by omega, _, rfl, _, rfl, ⟨by omega, by have := wf.pl_le (show c < ns.length + 2 by omega); omega, by rw [Int.natAbs_natCast]; omega⟩, _, ⟨?_, rfl⟩, K3.trans k2 k3, kvs3, hkd3, kn3, kv3, hkn3⟩
          rw [List.take_succ, hc, List.map_append, List.sum_append]
          have e1 : (((Sh.pl names.length ns c : Nat) : Int) - (p : Int) - 1).toNat = Sh.pl names.length ns c - p - 1 := by omega
          rw [e1]
          show _ = (((_ + (term c + 0) : Nat)) : Int)
          rw [Int.natCast_add, Nat.add_zero]
          congr 1
        · rintro σ H2 ⟨v7, kvs', kn', rfl, k2, hkd2, kv2, hkn2⟩
          have hsum : (([lo, hi].take (natV [lo, hi]).length).map term).sum = cntN names.length ns a := by
            rw [natV_len, List.take_length, cnt_at wf ha2 e]
            show term lo + (term hi + 0) = _
            rw [Nat.add_zero]
          rw [hsum]
          have kvl := kv2.len
          refine ⟨_, rfl, _, rfl, _, rfl, kd, _, rfl, DPut.k (k := .inl (a : Int)) hkd2 (by rw [sizeLine_eq]; omega), _, _, _, _, _, rfl, ?_, _, upd_same, _, kv2.put (by omega), fun b r hb => ?_, if_pos rfl⟩
          · exact K3.trans (Same.k3 s1) (K3.trans k2 K3.ua)
          · unfold Sh.kput1 at hb
            by_cases hba : b = a
            · rw [if_pos hba] at hb
              cases hb
              rw [hba]
            · rw [if_neg hba] at hb
              exact hkn2 b r hb
    · rintro σ' H' ⟨v3, v4, v5, v6, v7, kvs', kn', rfl, k3, hkd3, kv3, kn3, hr3⟩
      have g := DGet.k (k := .inl (a : Int)) hkd3
      rw [kv3.get, hr3] at g
      exact ⟨_, rfl, _, rfl, kd, _, rfl, g, q _ kvs' kn' k3 hkd3 kv3 kn3⟩
theorem disp_counted (T : TWays K mg cl xc cs) : ∀ f : Nat, DispAt P w K mg base CX0 (fun C => C = cs) "counted" (f + 3) ["self", "node", "known"] (fun _ => spCounted cs f)
  | 0 => by
    refine ⟨fun C hC => ?_⟩
    subst hC
    refine methAt_ok T.sh.dr.opp.sh.c_Sheet.cl T.m_counted sc_Sheet_counted (fun vs H Q E h => ?_) (fun fa cdv A outer st H vs Q E hr h => ?_)
    · obtain ⟨x, dx, tn, ln, dn, kd, names, ns, kn, kvs, a, rfl, _⟩ := h; rfl
    · obtain ⟨x, dx, tn, ln, dn, kd, names, ns, kn, kvs, a, rfl, s, wf, hl60, hkn, hkd, kv, ha, hf, q⟩ := h
      have := wf.pl_le ha
      omega
  | f + 1 => ok_counted T (disp_counted T f) (by omega)
def spWays (cs : Addr) : Sp := fun vs H Q _ => ∃ (x dx tn ln dn : Addr) (names : List Str) (ns : List Sh.Nd) (a : Nat), vs = [.ref x, .int a] ∧ ShO cs H x dx tn ln dn names ns ∧ Sh.Wf names.length ns ∧ names.length ≤ 60 ∧ a < ns.length + 2 ∧
  ∀ H', Same H H' → Q (.int (((List.range (2 ^ names.length)).countP fun i => Sh.ev ns a (bitN i) : Nat) : Int)) H'
theorem disp_ways (T : TWays K mg cl xc cs) : DispAt P w K mg base CX0 (fun C => C = cs) "ways" 65 ["self", "node"] (fun _ => spWays cs) := by
  have G_counted : DispAt P w K mg base CX0 (fun C => C = cs) "counted" 64 ["self", "node", "known"] (fun _ => spCounted cs 61) := disp_counted T 61
  have G_place : DispAt P w K mg base CX0 (fun C => C = cs) "place" 1 ["self", "node"] (fun _ => spPlace cs) := disp_place T.sh.dr.opp.sh
  have G_need := (disp_need (P := P) (w := w) (base := base) T.sh).calm
  refine ⟨fun C hC => ?_⟩
  subst hC
  refine methAt_ok T.sh.dr.opp.sh.c_Sheet.cl T.m_ways sc_Sheet_ways (fun vs H Q E h => ?_) (fun fa cdv A outer st H vs Q E hr h => ?_)
  · obtain ⟨x, dx, tn, ln, dn, names, ns, a, rfl, _⟩ := h; rfl
  · obtain ⟨x, dx, tn, ln, dn, names, ns, a, rfl, s, wf, hl, ha, q⟩ := h
    have hu := hu_of hr
    refine ⟨_, (pss_one (ps_ret (pe_op op_shl (pe_methD G_counted hr pass0 (pv 0) (pa_cons (pe_methD G_need hr pass0 (pv 0) (pa_cons (pv 1) pa_nil)) (pa_cons pe_dnewK pa_nil))) (pe_methD G_place hr pass0 (pv 0) (pa_cons (pv 1) pa_nil))))), ?_⟩
    walk_at "rd"
    refine ⟨_, rfl, x, C, dx, _, rfl, s.ob, rfl, lkSn (by decide +kernel), _, rfl, x, C, dx, _, rfl, s.ob, rfl, lkSn (by decide +kernel), _, rfl, x, dx, tn, ln, dn, names, ns, (a : Int), rfl, s, fun _ => fun kd nkd => ?_, (fun h => absurd ⟨by omega, by omega⟩ h)⟩
    refine ⟨x, dx, tn, ln, dn, kd, names, ns, fun _ => none, [], a, rfl, s.keep (Same.new nkd), wf, hl, (fun _ _ h => nomatch h), upd_same, Kn1V.nil, ha, by omega, fun H2 kvs2 kn2 k2 _ _ _ => ?_⟩
    have s2 : Same H H2 := fun b o e => k2 _ _ (Same.new nkd _ _ e) (ne_of_none e nkd) (ne_of_none e nkd) (ne_of_none e nkd)
    have sh2 := s.keep s2
    have hct := cnt_le wf ha
    have h60 : 2 ^ names.length ≤ 2 ^ 60 := Nat.pow_le_pow_right (by decide) hl
    refine ⟨_, rfl, x, C, dx, _, rfl, sh2.ob, rfl, lkSn (by decide +kernel), _, rfl, x, dx, tn, ln, dn, names, ns, a, rfl, sh2, ha, _, rfl, _, rfl, ⟨by omega, by have := wf.pl_le ha; omega, by rw [Int.natAbs_natCast]; omega⟩, ?_⟩
    have z := q H2 s2
    rw [← ways_rows wf ha, Int.natCast_mul, Int.natCast_pow] at z
    rw [Int.toNat_natCast]
    exact z
end

--%% ME
theorem ixOf_get : ∀ {l : List Str} {n : Str} {p : Nat}, l.Nodup → l[p]? = some n → ixOf l n = p
  | [], _, _, _, h => by simp at h
  | x :: r, n, 0, _, h => by
    simp at h
    unfold ixOf
    rw [if_pos h]
  | x :: r, n, p + 1, nd, h => by
    obtain ⟨n1, n2⟩ := List.nodup_cons.mp nd
    have h' : r[p]? = some n := by simpa using h
    unfold ixOf
    rw [if_neg (fun e : x = n => n1 (by rw [e]; exact List.mem_of_getElem? h')), ixOf_get n2 h']

/-! ## sheets: row -/
abbrev s_Sheet_row : Stmt := inClass (top 33) 15
theorem sc_Sheet_row : FnScope ["self", "node", "found", "name", "place", "low", "high"] ["self", "node"] (defScope s_Sheet_row) := ⟨rfl, rfl, rfl, by decide +kernel, rfl, by decide +kernel, by decide +kernel⟩
structure TRow (K : PySem.W.Frag) (mg : Str → Option Value) (cl : Cl) (xc : Xc) (cs : Addr) : Prop where
  sh : TSh K mg cl xc cs
  m_row : MethAt K cs "row" "Sheet.row" s_Sheet_row ["self", "node"]
/-- the way to 1: high where low is 0, else low -/
def pathB (ns : List Sh.Nd) : Nat → Nat → (Nat → Bool) → (Nat → Bool)
  | 0, _, b => b
  | f + 1, k, b => if k < 2 then b else match ns[k - 2]? with
    | some (p, l, h) => pathB ns f (if l = 0 then h else l) (Sh.setb b p (l == 0))
    | none => b
def rowB (ns : List Sh.Nd) (k : Nat) : Nat → Bool := pathB ns (k + 1) k fun _ => false
theorem path_more {n : Nat} {ns : List Sh.Nd} (w : Sh.Wf n ns) : ∀ (f k : Nat) (b : Nat → Bool), k < f → pathB ns f k b = pathB ns (k + 1) k b := by
  intro f
  induction f using Nat.strongRecOn with
  | _ f ih =>
    intro k b hk
    obtain ⟨g, rfl⟩ : ∃ g, f = g + 1 := ⟨f - 1, by omega⟩
    simp only [pathB]
    by_cases h2 : k < 2
    · rw [if_pos h2, if_pos h2]
    · rw [if_neg h2, if_neg h2]
      cases e : ns[k - 2]? with
      | none => rfl
      | some t =>
        obtain ⟨p, l, h⟩ := t
        obtain ⟨_, _, hl, hh, _⟩ := w.kids (by omega) e
        have hc : (if l = 0 then h else l) < k := by split <;> assumption
        show pathB ns g (if l = 0 then h else l) _ = pathB ns k (if l = 0 then h else l) _
        by_cases hgk : g = k
        · rw [hgk]
        · rw [ih g (by omega) _ _ (by omega), ih k (by omega) _ _ hc]
theorem path_low {ns : List Sh.Nd} {k : Nat} {b : Nat → Bool} (h : k < 2) : pathB ns (k + 1) k b = b := by
  unfold pathB
  rw [if_pos h]
theorem path_at {n : Nat} {ns : List Sh.Nd} (w : Sh.Wf n ns) {k p l h : Nat} (b : Nat → Bool) (h2 : 2 ≤ k) (e : ns[k - 2]? = some (p, l, h)) :
    pathB ns (k + 1) k b = pathB ns ((if l = 0 then h else l) + 1) (if l = 0 then h else l) (Sh.setb b p (l == 0)) := by
  obtain ⟨_, _, hl, hh, _⟩ := w.kids h2 e
  have hc : (if l = 0 then h else l) < k := by split <;> assumption
  rw [pathB, if_neg (by omega), e]
  exact path_more w _ _ _ hc
/-- what was set ahead stays -/
theorem path_keep {n : Nat} {ns : List Sh.Nd} (w : Sh.Wf n ns) : ∀ (k : Nat) (b : Nat → Bool), k < ns.length + 2 → ∀ q, q < Sh.pl n ns k → pathB ns (k + 1) k b q = b q := by
  intro k
  induction k using Nat.strongRecOn with
  | _ k ih =>
    intro b hk q hq
    by_cases h2 : k < 2
    · rw [path_low h2]
    · obtain ⟨p, l, h, e⟩ := Sh.at_some (by omega) hk
      obtain ⟨_, _, hl, hh, pl_, ph_⟩ := w.kids (by omega) e
      rw [Sh.pl_at (by omega) e] at hq
      rw [path_at w b (by omega) e]
      split
      · rw [ih h hh _ (by omega) q (by omega), Sh.setb_ne (by omega)]
      · rw [ih l hl _ (by omega) q (by omega), Sh.setb_ne (by omega)]
/-- it holds there -/
theorem path_holds {n : Nat} {ns : List Sh.Nd} (w : Sh.Wf n ns) : ∀ (k : Nat) (b : Nat → Bool), k < ns.length + 2 → k ≠ 0 → Sh.ev ns k (pathB ns (k + 1) k b) = true := by
  intro k
  induction k using Nat.strongRecOn with
  | _ k ih =>
    intro b hk h0
    by_cases h2 : k < 2
    · rw [Sh.ev_low h2]
      obtain rfl : k = 1 := by omega
      rfl
    · obtain ⟨p, l, h, e⟩ := Sh.at_some (by omega) hk
      obtain ⟨_, hlh, hl, hh, pl_, ph_⟩ := w.kids (by omega) e
      rw [path_at w b (by omega) e, w.ev_at _ (by omega) e]
      by_cases hl0 : l = 0
      · rw [if_pos hl0, path_keep w h _ (by omega) p ph_, Sh.setb_at, beq_iff_eq.mpr hl0, if_pos rfl]
        exact ih h hh _ (by omega) (by omega)
      · rw [if_neg hl0, path_keep w l _ (by omega) p pl_, Sh.setb_at, beq_eq_false_iff_ne.mpr hl0, if_neg Bool.false_ne_true]
        exact ih l hl _ (by omega) hl0
/-- a row of the names -/
def dictB (l : List Str) (b : Nat → Bool) : List (Str × Bool) := l.map fun n => (n, b (ixOf l n))
theorem dictB_keys (l : List Str) (b : Nat → Bool) : keysL (dictB l b) = l := by
  unfold keysL dictB
  rw [List.map_map]
  exact List.map_id' l
theorem dictB_len (l : List Str) (b : Nat → Bool) : (dictB l b).length = l.length := by unfold dictB; rw [List.length_map]
theorem dictB_put {l : List Str} {b : Nat → Bool} {p : Nat} {n : Str} {v : Bool} (nd : l.Nodup) (h : l[p]? = some n) : putL (dictB l b) n v = dictB l (Sh.setb b p v) := by
  have hm : n ∈ l := List.mem_of_getElem? h
  unfold putL
  rw [if_pos (by rw [dictB_keys]; exact hm)]
  unfold dictB
  rw [List.map_map]
  refine List.map_congr_left fun m hm => ?_
  simp only [Function.comp]
  by_cases e : m = n
  · subst e
    rw [if_pos rfl, ixOf_get nd h, Sh.setb_at]
  · rw [if_neg e, Sh.setb_ne]
    intro e2
    have := (ixOf_at hm).1
    rw [e2, h] at this
    exact e (by injection this with this; exact this.symm)
theorem dictB_get {l : List Str} {b : Nat → Bool} {n : Str} (hm : n ∈ l) : getL (dictB l b) n = some (b (ixOf l n)) := by
  have key : ∀ (L M : List Str), n ∈ M → getL (M.map fun m => (m, b (ixOf L m))) n = some (b (ixOf L n)) := by
    intro L M
    induction M with
    | nil => intro h; cases h
    | cons x r ih =>
      intro h
      unfold getL
      rw [List.map_cons, List.find?_cons]
      by_cases e : x = n
      · simp [e]
      · have h' : n ∈ r := by
          rcases List.mem_cons.mp h with q | q
          · exact absurd q.symm e
          · exact q
        have := ih h'
        unfold getL at this
        simp only [decide_eq_false e]
        exact this
  exact key l l hm
section
variable {P : Program} {w : World} {K : PySem.W.Frag} {mg : Str → Option Value} {base : Heap} {cl : Cl} {xc : Xc} {cs : Addr}
def spRowS (cs : Addr) : Sp := fun vs H Q _ => ∃ (x dx tn ln dn : Addr) (names : List Str) (ns : List Sh.Nd) (a : Nat), vs = [.ref x, .int a] ∧ ShO cs H x dx tn ln dn names ns ∧ Sh.Wf names.length ns ∧ names.length ≤ 60 ∧ names.Nodup ∧ a < ns.length + 2 ∧
  (a = 0 → Q .non H) ∧ (a ≠ 0 → ∀ (H' : Hp) (d : Addr), Same H H' → H d = none → H' d = some (.dK (dL V.bl (dictB names (rowB ns a)))) → Q (.ref d) H')
theorem disp_row (T : TRow K mg cl xc cs) : DispAt P w K mg base CX0 (fun C => C = cs) "row" 2 ["self", "node"] (fun _ => spRowS cs) := by
  have G_need := (disp_need (P := P) (w := w) (base := base) T.sh).calm
  refine ⟨fun C hC => ?_⟩
  subst hC
  refine methAt_ok T.sh.dr.opp.sh.c_Sheet.cl T.m_row sc_Sheet_row (fun vs H Q E h => ?_) (fun fa cdv A outer st H vs Q E hr h => ?_)
  · obtain ⟨x, dx, tn, ln, dn, names, ns, a, rfl, _⟩ := h; rfl
  · obtain ⟨x, dx, tn, ln, dn, names, ns, a, rfl, s, wf, hl, hnd, ha, q0, q1⟩ := h
    have hu := hu_of hr
    refine ⟨_, (pss_cons (ps_if (pt_cmpR op_eq (pe_methD G_need hr pass0 (pv 0) (pa_cons (pv 1) pa_nil)) pe_int (nomark _)) (pss_one (ps_ret pe_non)) pss_nil)
        (pss_cons (ps_set (i := 2) sc_Sheet_row.nd rfl (by first | exact Or.inl rfl | exact Or.inr rfl) pe_dnewK)
        (pss_cons (ps_for PassesOwn.never rfl (pi_tup (pe_fld (pv 0) rfl)) (pg_name (i := 3) sc_Sheet_row.nd rfl (by first | exact Or.inl rfl | exact Or.inr rfl)) (pss_one (ps_dput hu (pv 2) (pv 3) pe_bl rfl)))
        (pss_cons (ps_while PassesOwn.never (pt_cmpR op_ne (pv 1) pe_int (nomark _)) (pss_cons (ps_asg (pe_ix ix_list (pe_fld (pv 0) rfl) (pe_op op_sub (pv 1) pe_int) (fun _ _ => rfl)) (pg_tup rfl (pgs_cons (pg_name (i := 4) sc_Sheet_row.nd rfl (by first | exact Or.inl rfl | exact Or.inr rfl)) (pgs_cons (pg_name (i := 5) sc_Sheet_row.nd rfl (by first | exact Or.inl rfl | exact Or.inr rfl)) (pgs_cons (pg_name (i := 6) sc_Sheet_row.nd rfl (by first | exact Or.inl rfl | exact Or.inr rfl)) pgs_nil)))))
          (pss_cons (ps_dput hu (pv 2) (pe_ix ix_tup (pe_fld (pv 0) rfl) (pv 4) (fun _ _ => rfl)) (pe_cmpR op_eq (pv 5) pe_int (nomark _)) rfl)
          (pss_one (ps_set (i := 1) sc_Sheet_row.nd rfl (by first | exact Or.inl rfl | exact Or.inr rfl) (pe_ifExp (pt_cmpR op_eq (pv 5) pe_int (nomark _)) (pv 6) (pv 5)))))))
        (pss_one (ps_ret (pv 2))))))), ?_⟩
    walk_at "rd"
    refine ⟨_, rfl, x, C, dx, _, rfl, s.ob, rfl, lkSn (by decide +kernel), _, rfl, x, dx, tn, ln, dn, names, ns, (a : Int), rfl, s, fun _ => ⟨scal_ii, ?_⟩, (fun h => absurd ⟨by omega, by omega⟩ h)⟩
    by_cases h0 : a = 0
    · rw [decide_eq_true (by rw [h0]; rfl)]
      exact iteT (q0 h0)
    rw [decide_eq_false (fun e => h0 (by injection e with e; omega))]
    refine iteF fun d nd => ?_
    have s1 : Same H (upd H d (.dK [])) := Same.new nd
    have hd1 : upd H d (.dK []) d = some (.dK []) := upd_same
    show tFor _ _ _ _ _ (upd H d (.dK []))
    generalize upd H d (.dK []) = H1 at s1 hd1 ⊢
    have sh1 := s.keep s1
    refine ⟨_, rfl, x, _, dx, _, _, rfl, sh1.ob, T.sh.dr.opp.sh.c_Sheet.cl, T.sh.dr.opp.sh.n_names, lkS1, tn, rfl, ⟨_, sh1.hn.sq⟩, for_tup (K := K) (a := tn) (xs := names.map V.str) (fun i σ H' => ∃ v3 : Option V, σ = [some (.ref x), some (.int a), some (.ref d), v3, none, none, none] ∧ Same H H' ∧ H' d = some (.dK (dL V.bl ((names.take i).map fun n => (n, false))))) ⟨none, rfl, s1, hd1⟩ (fun i σ H' _ ⟨_, _, s2, _⟩ => (s.keep s2).hn.sq) ?_ ?_⟩
    · rintro i y σ H2 hy ⟨v3, rfl, s2, hd2⟩
      rw [List.getElem?_map] at hy
      obtain ⟨n, hn, rfl⟩ := Option.map_eq_some_iff.mp hy
      have hil := (List.getElem?_eq_some_iff.mp hn).1
      walk_at "rd"
      refine ⟨_, rfl, _, rfl, d, _, rfl, DPut.k (k := .inr n) hd2 (by rw [dL_len, List.length_map, List.length_take, sizeLine_eq]; omega), _, rfl, Same.mut s2 nd, ?_⟩
      rw [upd_same]
      congr 2
      rw [dL_put, keys_new, List.take_succ, hn, List.map_append]
      · rfl
      · have hk : keysL ((names.take i).map fun n => (n, false)) = names.take i := by unfold keysL; rw [List.map_map]; exact List.map_id' _
        rw [hk]
        intro hm
        have hsp : names.take i ++ names.drop i = names := List.take_append_drop i names
        obtain ⟨hi1, hg⟩ := List.getElem?_eq_some_iff.mp hn
        have nd2 := hnd
        rw [← hsp, List.nodup_append] at nd2
        exact nd2.2.2 n hm n (by rw [List.drop_eq_getElem_cons hi1, hg]; exact List.mem_cons_self) rfl
    rintro σ H2 ⟨v3, rfl, s2, hd2⟩
    rw [List.length_map, List.take_length] at hd2
    walk_at "rd"
    refine ⟨fun mm σ H' => ∃ (v4 v5 v6 : Option V) (n : Nat) (b : Nat → Bool), σ = [some (.ref x), some (.int (n : Int)), some (.ref d), v3, v4, v5, v6] ∧ Same H H' ∧ n < ns.length + 2 ∧ n ≠ 0 ∧ pathB ns (n + 1) n b = rowB ns a ∧ H' d = some (.dK (dL V.bl (dictB names b))) ∧ mm = n, ⟨a, none, none, none, a, fun _ => false, rfl, s2, ha, h0, rfl, hd2, rfl⟩, ?_⟩
    rintro n σ H3 ⟨v4, v5, v6, n', b, rfl, s3, hn, hn0, he, hd3, rfl⟩
    have sh3 := s.keep s3
    walk_at "rd"
    by_cases h1 : n = 1
    · subst h1
      refine iteF ?_
      rw [path_low (by omega)] at he
      exact q1 h0 H3 d s3 nd (by rw [hd3, he])
    rw [decide_eq_false (fun e : (n : Int) = 1 => h1 (by omega))]
    have h2 : 2 ≤ n := by omega
    obtain ⟨p, l, h, e⟩ := Sh.at_some h2 hn
    obtain ⟨hpn, hlh, hl', hh', pl_, ph_⟩ := wf.kids h2 e
    obtain ⟨vs, t, t1, t3, t4, _⟩ := sh3.at h2 e
    refine iteT ⟨_, fun σ' H' h => h, _, rfl, x, _, dx, _, _, rfl, sh3.ob, T.sh.dr.opp.sh.c_Sheet.cl, T.sh.dr.opp.sh.n_nodes, lkS2, ln, vs, _, .ref t, rfl, rfl, SqL.of t1, t3, t, [.int p, .int l, .int h], rfl, SqT.of t4, rfl, ?_⟩
    walk_at "rd"
    unfold sDPut
    walk_at "rd"
    have e0 : decide ((l : Int) = 0) = (l == 0) := by rw [Bool.eq_iff_iff, decide_eq_true_iff, beq_iff_eq]; omega
    rw [e0]
    obtain ⟨nm, hnm⟩ : ∃ nm, names[p]? = some nm := ⟨names[p], List.getElem?_eq_getElem hpn⟩
    have hat : atI (names.map V.str) (p : Int) = some (.str nm) := atI_nat (by rw [List.getElem?_map, hnm]; rfl)
    refine ⟨_, rfl, x, _, dx, _, _, rfl, sh3.ob, T.sh.dr.opp.sh.c_Sheet.cl, T.sh.dr.opp.sh.n_names, lkS1, tn, _, _, .str nm, rfl, rfl, sh3.hn.sq, hat, _, DPut.k (k := .inr nm) hd3 (by rw [dL_len, dictB_len, sizeLine_eq]; omega), ?_⟩
    have s4 : Same H (upd H3 d (.dK (putK (dL V.bl (dictB names b)) (.inr nm) (V.bl (l == 0))))) := Same.mut s3 nd
    have hd4 : upd H3 d (.dK (putK (dL V.bl (dictB names b)) (.inr nm) (V.bl (l == 0)))) d = some (.dK (dL V.bl (dictB names (Sh.setb b p (l == 0))))) := by
      rw [upd_same, dL_put, dictB_put hnd hnm]
    rw [path_at wf b h2 e] at he
    generalize upd H3 d (.dK (putK (dL V.bl (dictB names b)) (.inr nm) (V.bl (l == 0)))) = H4 at s4 hd4 ⊢
    walk_at "rd"
    by_cases hl0 : l = 0
    · rw [beq_iff_eq.mpr hl0]
      rw [if_pos hl0] at he
      exact iteT ⟨h, hh', _, _, _, h, ⟨rfl, rfl, rfl, rfl⟩, s4, by omega, by omega, _, he, hd4, rfl⟩
    · rw [beq_eq_false_iff_ne.mpr hl0]
      rw [if_neg hl0] at he
      exact iteF ⟨l, hl', _, _, _, l, ⟨rfl, rfl, rfl, rfl⟩, s4, by omega, hl0, _, he, hd4, rfl⟩
end

--%% MF
/-! ## sheets: what is refused -/
section
variable {P : Program} {w : World} {K : PySem.W.Frag} {mg : Str → Option Value} {base : Heap} {cl : Cl} {xc : Xc} {cs : Addr}
/-- a number of a node, and what is due at it; else the refusal -/
def Due (cs : Addr) (xc : Xc) (H : Hp) (E : XK) (x dx tn ln dn : Addr) (names : List Str) (ns : List Sh.Nd) (k : Int) (good : Nat → Prop) : Prop :=
  (∀ a : Nat, k = (a : Int) → a < ns.length + 2 → good a) ∧ (¬ (0 ≤ k ∧ k < ns.length + 2) → ∀ H', Same H H' → E (.ref xc.sheet) none H')
def spWaysX (cs : Addr) (xc : Xc) : Sp := fun vs H Q E => ∃ (x dx tn ln dn : Addr) (names : List Str) (ns : List Sh.Nd) (k : Int), vs = [.ref x, .int k] ∧ ShO cs H x dx tn ln dn names ns ∧ Sh.Wf names.length ns ∧ names.length ≤ 60 ∧
  Due cs xc H E x dx tn ln dn names ns k fun a => ∀ H', Same H H' → Q (.int (((List.range (2 ^ names.length)).countP fun i => Sh.ev ns a (bitN i) : Nat) : Int)) H'
theorem disp_waysX (T : TWays K mg cl xc cs) : DispAt P w K mg base (L2.CX P w) (fun C => C = cs) "ways" 65 ["self", "node"] (fun _ => spWaysX cs xc) := by
  have G_counted : DispAt P w K mg base CX0 (fun C => C = cs) "counted" 64 ["self", "node", "known"] (fun _ => spCounted cs 61) := disp_counted T 61
  have G_place : DispAt P w K mg base CX0 (fun C => C = cs) "place" 1 ["self", "node"] (fun _ => spPlace cs) := disp_place T.sh.dr.opp.sh
  have GX_need : DispAt P w K mg base (L2.CX P w) (fun C => C = cs) "need" 1 ["self", "node"] (fun _ => spNeed cs xc) := disp_need T.sh
  refine ⟨fun C hC => ?_⟩
  subst hC
  refine methAt_okX T.sh.dr.opp.sh.c_Sheet.cl T.m_ways sc_Sheet_ways (fun vs H Q E h => ?_) (fun fa cdv A outer st H vs Q E hr h => ?_)
  · obtain ⟨x, dx, tn, ln, dn, names, ns, k, rfl, _⟩ := h; rfl
  · obtain ⟨x, dx, tn, ln, dn, names, ns, k, rfl, s, wf, hl, qg, qx⟩ := h
    have hu := hu_of hr
    refine ⟨_, (pss_one (ps_ret (pe_op op_shl (pe_methD G_counted hr pass0 (pv 0) (pa_cons (pe_methD GX_need hr (passX (L2.takes_of rfl rfl rfl rfl)) (pv 0) (pa_cons (pv 1) pa_nil)) (pa_cons pe_dnewK pa_nil))) (pe_methD G_place hr pass0 (pv 0) (pa_cons (pv 1) pa_nil))))), ?_⟩
    walk_at "rd"
    refine ⟨_, rfl, x, C, dx, _, rfl, s.ob, rfl, lkSn (by decide +kernel), _, rfl, x, C, dx, _, rfl, s.ob, rfl, lkSn (by decide +kernel), _, rfl, x, dx, tn, ln, dn, names, ns, k, rfl, s, fun hk => ?_, qx⟩
    obtain ⟨a, rfl⟩ := Int.eq_ofNat_of_zero_le hk.1
    have ha : a < ns.length + 2 := by omega
    have q := qg a rfl ha
    refine fun kd nkd => ?_
    refine ⟨x, dx, tn, ln, dn, kd, names, ns, fun _ => none, [], a, rfl, s.keep (Same.new nkd), wf, hl, (fun _ _ h => nomatch h), upd_same, Kn1V.nil, ha, by omega, fun H2 kvs2 kn2 k2 _ _ _ => ?_⟩
    have s2 : Same H H2 := fun b o e => k2 _ _ (Same.new nkd _ _ e) (ne_of_none e nkd) (ne_of_none e nkd) (ne_of_none e nkd)
    have sh2 := s.keep s2
    have hct := cnt_le wf ha
    have h60 : 2 ^ names.length ≤ 2 ^ 60 := Nat.pow_le_pow_right (by decide) hl
    refine ⟨_, rfl, x, C, dx, _, rfl, sh2.ob, rfl, lkSn (by decide +kernel), _, rfl, x, dx, tn, ln, dn, names, ns, a, rfl, sh2, ha, _, rfl, _, rfl, ⟨by omega, by have := wf.pl_le ha; omega, by rw [Int.natAbs_natCast]; omega⟩, ?_⟩
    have z := q H2 s2
    rw [← ways_rows wf ha, Int.natCast_mul, Int.natCast_pow] at z
    rw [Int.toNat_natCast]
    exact z
def spRowX (cs : Addr) (xc : Xc) : Sp := fun vs H Q E => ∃ (x dx tn ln dn : Addr) (names : List Str) (ns : List Sh.Nd) (k : Int), vs = [.ref x, .int k] ∧ ShO cs H x dx tn ln dn names ns ∧ Sh.Wf names.length ns ∧ names.length ≤ 60 ∧ names.Nodup ∧
  Due cs xc H E x dx tn ln dn names ns k fun a => (a = 0 → Q .non H) ∧ (a ≠ 0 → ∀ (H' : Hp) (d : Addr), Same H H' → H d = none → H' d = some (.dK (dL V.bl (dictB names (rowB ns a)))) → Q (.ref d) H')
theorem disp_rowX (T : TRow K mg cl xc cs) : DispAt P w K mg base (L2.CX P w) (fun C => C = cs) "row" 2 ["self", "node"] (fun _ => spRowX cs xc) := by
  have GX_need : DispAt P w K mg base (L2.CX P w) (fun C => C = cs) "need" 1 ["self", "node"] (fun _ => spNeed cs xc) := disp_need T.sh
  refine ⟨fun C hC => ?_⟩
  subst hC
  refine methAt_okX T.sh.dr.opp.sh.c_Sheet.cl T.m_row sc_Sheet_row (fun vs H Q E h => ?_) (fun fa cdv A outer st H vs Q E hr h => ?_)
  · obtain ⟨x, dx, tn, ln, dn, names, ns, k, rfl, _⟩ := h; rfl
  · obtain ⟨x, dx, tn, ln, dn, names, ns, k, rfl, s, wf, hl, hnd, qg, qx⟩ := h
    have hu := hu_of hr
    refine ⟨_, (pss_cons (ps_if (pt_cmpR op_eq (pe_methD GX_need hr (passX (L2.takes_of rfl rfl rfl rfl)) (pv 0) (pa_cons (pv 1) pa_nil)) pe_int (nomark _)) (pss_one (ps_ret pe_non)) pss_nil)
        (pss_cons (ps_set (i := 2) sc_Sheet_row.nd rfl (by first | exact Or.inl rfl | exact Or.inr rfl) pe_dnewK)
        (pss_cons (ps_for (L2.passes_of rfl) rfl (pi_tup (pe_fld (pv 0) rfl)) (pg_name (i := 3) sc_Sheet_row.nd rfl (by first | exact Or.inl rfl | exact Or.inr rfl)) (pss_one (ps_dput hu (pv 2) (pv 3) pe_bl rfl)))
        (pss_cons (ps_while (L2.passes_of rfl) (pt_cmpR op_ne (pv 1) pe_int (nomark _)) (pss_cons (ps_asg (pe_ix ix_list (pe_fld (pv 0) rfl) (pe_op op_sub (pv 1) pe_int) (fun _ _ => rfl)) (pg_tup rfl (pgs_cons (pg_name (i := 4) sc_Sheet_row.nd rfl (by first | exact Or.inl rfl | exact Or.inr rfl)) (pgs_cons (pg_name (i := 5) sc_Sheet_row.nd rfl (by first | exact Or.inl rfl | exact Or.inr rfl)) (pgs_cons (pg_name (i := 6) sc_Sheet_row.nd rfl (by first | exact Or.inl rfl | exact Or.inr rfl)) pgs_nil)))))
          (pss_cons (ps_dput hu (pv 2) (pe_ix ix_tup (pe_fld (pv 0) rfl) (pv 4) (fun _ _ => rfl)) (pe_cmpR op_eq (pv 5) pe_int (nomark _)) rfl)
          (pss_one (ps_set (i := 1) sc_Sheet_row.nd rfl (by first | exact Or.inl rfl | exact Or.inr rfl) (pe_ifExp (pt_cmpR op_eq (pv 5) pe_int (nomark _)) (pv 6) (pv 5)))))))
        (pss_one (ps_ret (pv 2))))))), ?_⟩
    walk_at "rd"
    refine ⟨_, rfl, x, C, dx, _, rfl, s.ob, rfl, lkSn (by decide +kernel), _, rfl, x, dx, tn, ln, dn, names, ns, k, rfl, s, fun hk => ⟨?_, ?_⟩, qx⟩
    · obtain ⟨a, rfl⟩ := Int.eq_ofNat_of_zero_le hk.1
      exact scal_ii
    obtain ⟨a, rfl⟩ := Int.eq_ofNat_of_zero_le hk.1
    have ha : a < ns.length + 2 := by omega
    obtain ⟨q0, q1⟩ := qg a rfl ha
    by_cases h0 : a = 0
    · rw [decide_eq_true (by rw [h0]; rfl)]
      exact iteT (q0 h0)
    rw [decide_eq_false (fun e => h0 (by injection e with e; omega))]
    refine iteF fun d nd => ?_
    have s1 : Same H (upd H d (.dK [])) := Same.new nd
    have hd1 : upd H d (.dK []) d = some (.dK []) := upd_same
    show tFor _ _ _ _ _ (upd H d (.dK []))
    generalize upd H d (.dK []) = H1 at s1 hd1 ⊢
    have sh1 := s.keep s1
    refine ⟨_, rfl, x, _, dx, _, _, rfl, sh1.ob, T.sh.dr.opp.sh.c_Sheet.cl, T.sh.dr.opp.sh.n_names, lkS1, tn, rfl, ⟨_, sh1.hn.sq⟩, for_tup (K := K) (a := tn) (xs := names.map V.str) (fun i σ H' => ∃ v3 : Option V, σ = [some (.ref x), some (.int a), some (.ref d), v3, none, none, none] ∧ Same H H' ∧ H' d = some (.dK (dL V.bl ((names.take i).map fun n => (n, false))))) ⟨none, rfl, s1, hd1⟩ (fun i σ H' _ ⟨_, _, s2, _⟩ => (s.keep s2).hn.sq) ?_ ?_⟩
    · rintro i y σ H2 hy ⟨v3, rfl, s2, hd2⟩
      rw [List.getElem?_map] at hy
      obtain ⟨n, hn, rfl⟩ := Option.map_eq_some_iff.mp hy
      have hil := (List.getElem?_eq_some_iff.mp hn).1
      walk_at "rd"
      refine ⟨_, rfl, _, rfl, d, _, rfl, DPut.k (k := .inr n) hd2 (by rw [dL_len, List.length_map, List.length_take, sizeLine_eq]; omega), _, rfl, Same.mut s2 nd, ?_⟩
      rw [upd_same]
      congr 2
      rw [dL_put, keys_new, List.take_succ, hn, List.map_append]
      · rfl
      · have hk : keysL ((names.take i).map fun n => (n, false)) = names.take i := by unfold keysL; rw [List.map_map]; exact List.map_id' _
        rw [hk]
        intro hm
        have hsp : names.take i ++ names.drop i = names := List.take_append_drop i names
        obtain ⟨hi1, hg⟩ := List.getElem?_eq_some_iff.mp hn
        have nd2 := hnd
        rw [← hsp, List.nodup_append] at nd2
        exact nd2.2.2 n hm n (by rw [List.drop_eq_getElem_cons hi1, hg]; exact List.mem_cons_self) rfl
    rintro σ H2 ⟨v3, rfl, s2, hd2⟩
    rw [List.length_map, List.take_length] at hd2
    walk_at "rd"
    refine ⟨fun mm σ H' => ∃ (v4 v5 v6 : Option V) (n : Nat) (b : Nat → Bool), σ = [some (.ref x), some (.int (n : Int)), some (.ref d), v3, v4, v5, v6] ∧ Same H H' ∧ n < ns.length + 2 ∧ n ≠ 0 ∧ pathB ns (n + 1) n b = rowB ns a ∧ H' d = some (.dK (dL V.bl (dictB names b))) ∧ mm = n, ⟨a, none, none, none, a, fun _ => false, rfl, s2, ha, h0, rfl, hd2, rfl⟩, ?_⟩
    rintro n σ H3 ⟨v4, v5, v6, n', b, rfl, s3, hn, hn0, he, hd3, rfl⟩
    have sh3 := s.keep s3
    walk_at "rd"
    by_cases h1 : n = 1
    · subst h1
      refine iteF ?_
      rw [path_low (by omega)] at he
      exact q1 h0 H3 d s3 nd (by rw [hd3, he])
    rw [decide_eq_false (fun e : (n : Int) = 1 => h1 (by omega))]
    have h2 : 2 ≤ n := by omega
    obtain ⟨p, l, h, e⟩ := Sh.at_some h2 hn
    obtain ⟨hpn, hlh, hl', hh', pl_, ph_⟩ := wf.kids h2 e
    obtain ⟨vs, t, t1, t3, t4, _⟩ := sh3.at h2 e
    refine iteT ⟨_, fun σ' H' h => h, _, rfl, x, _, dx, _, _, rfl, sh3.ob, T.sh.dr.opp.sh.c_Sheet.cl, T.sh.dr.opp.sh.n_nodes, lkS2, ln, vs, _, .ref t, rfl, rfl, SqL.of t1, t3, t, [.int p, .int l, .int h], rfl, SqT.of t4, rfl, ?_⟩
    walk_at "rd"
    unfold sDPut
    walk_at "rd"
    have e0 : decide ((l : Int) = 0) = (l == 0) := by rw [Bool.eq_iff_iff, decide_eq_true_iff, beq_iff_eq]; omega
    rw [e0]
    obtain ⟨nm, hnm⟩ : ∃ nm, names[p]? = some nm := ⟨names[p], List.getElem?_eq_getElem hpn⟩
    have hat : atI (names.map V.str) (p : Int) = some (.str nm) := atI_nat (by rw [List.getElem?_map, hnm]; rfl)
    refine ⟨_, rfl, x, _, dx, _, _, rfl, sh3.ob, T.sh.dr.opp.sh.c_Sheet.cl, T.sh.dr.opp.sh.n_names, lkS1, tn, _, _, .str nm, rfl, rfl, sh3.hn.sq, hat, _, DPut.k (k := .inr nm) hd3 (by rw [dL_len, dictB_len, sizeLine_eq]; omega), ?_⟩
    have s4 : Same H (upd H3 d (.dK (putK (dL V.bl (dictB names b)) (.inr nm) (V.bl (l == 0))))) := Same.mut s3 nd
    have hd4 : upd H3 d (.dK (putK (dL V.bl (dictB names b)) (.inr nm) (V.bl (l == 0)))) d = some (.dK (dL V.bl (dictB names (Sh.setb b p (l == 0))))) := by
      rw [upd_same, dL_put, dictB_put hnd hnm]
    rw [path_at wf b h2 e] at he
    generalize upd H3 d (.dK (putK (dL V.bl (dictB names b)) (.inr nm) (V.bl (l == 0)))) = H4 at s4 hd4 ⊢
    walk_at "rd"
    by_cases hl0 : l = 0
    · rw [beq_iff_eq.mpr hl0]
      rw [if_pos hl0] at he
      exact iteT ⟨h, hh', _, _, _, h, ⟨rfl, rfl, rfl, rfl⟩, s4, by omega, by omega, _, he, hd4, rfl⟩
    · rw [beq_eq_false_iff_ne.mpr hl0]
      rw [if_neg hl0] at he
      exact iteF ⟨l, hl', _, _, _, l, ⟨rfl, rfl, rfl, rfl⟩, s4, by omega, hl0, _, he, hd4, rfl⟩
def spJoinX (cs : Addr) (xc : Xc) (H : Hp) (Q : VK) (E : XK) (x dx tn ln dn : Addr) (names : List Str) (ns : List Sh.Nd) (i j : Int) (stop : Nat) : Prop := stop < 2 ∧ ShO cs H x dx tn ln dn names ns ∧ Sh.Wf names.length ns ∧ names.length ≤ 60 ∧
  (∀ a c : Nat, i = (a : Int) → j = (c : Int) → a < ns.length + 2 → c < ns.length + 2 → ∃ (ns' : List Sh.Nd) (r : Nat), (∃ kn', Sh.join names.length stop 61 ns (fun _ _ => none) a c = some (r, ns', kn')) ∧ ns'.length ≤ 2000 ∧ ∀ H', K3 ln dn dn H H' → ShO cs H' x dx tn ln dn names ns' → Q (.int r) H') ∧
  (¬ ((0 ≤ i ∧ i < ns.length + 2) ∧ (0 ≤ j ∧ j < ns.length + 2)) → ∀ H', Same H H' → E (.ref xc.sheet) none H')
def spOfTwoX (cs : Addr) (xc : Xc) : Sp := fun vs H Q E => ∃ (x dx tn ln dn : Addr) (names : List Str) (ns : List Sh.Nd) (i j : Int) (stop : Nat), vs = [.ref x, .int i, .int j, .int stop] ∧ spJoinX cs xc H Q E x dx tn ln dn names ns i j stop
theorem disp_of_twoX (T : TTwo K mg cl xc cs) : DispAt P w K mg base (L2.CX P w) (fun C => C = cs) "of_two" 65 ["self", "one", "other", "stop"] (fun _ => spOfTwoX cs xc) := by
  have GX_joined : DispAt P w K mg base (L2.CX P w) (fun C => C = cs) "joined" 64 ["self", "one", "other", "stop", "known"] (fun _ => spSJoin cs xc 61) := disp_sjoin T.sh.dr.opp.sh 61
  have GX_need : DispAt P w K mg base (L2.CX P w) (fun C => C = cs) "need" 1 ["self", "node"] (fun _ => spNeed cs xc) := disp_need T.sh
  refine ⟨fun C hC => ?_⟩
  subst hC
  refine methAt_okX T.sh.dr.opp.sh.c_Sheet.cl T.m_of_two sc_Sheet_of_two (fun vs H Q E h => ?_) (fun fa cdv A outer st H vs Q E hr h => ?_)
  · obtain ⟨x, dx, tn, ln, dn, names, ns, i, j, stop, rfl, _⟩ := h; rfl
  · obtain ⟨x, dx, tn, ln, dn, names, ns, i, j, stop, rfl, hs, s, wf, hl, qg, qx⟩ := h
    have hu := hu_of hr
    refine ⟨_, (pss_cons (ps_expr (pe_methD GX_need hr (passX (L2.takes_of rfl rfl rfl rfl)) (pv 0) (pa_cons (pv 1) pa_nil)))
        (pss_cons (ps_expr (pe_methD GX_need hr (passX (L2.takes_of rfl rfl rfl rfl)) (pv 0) (pa_cons (pv 2) pa_nil)))
        (pss_cons (ps_set (i := 4) sc_Sheet_of_two.nd rfl (by first | exact Or.inl rfl | exact Or.inr rfl) (pe_callB call_len_seq (by rfl) T.z_len PySem.boot_len (pa_cons (pe_fld (pv 0) rfl) pa_nil)))
        (pss_one (ps_try_calm rfl (fun W pn xe tk _ => (pss_one (ps_ret (pe_methT GX_joined hr tk (pv 0) (pa_cons (pv 1) (pa_cons (pv 2) (pa_cons (pv 3) (pa_cons pe_dnewT pa_nil))))))))))))), ?_⟩
    walk_at "rd"
    obtain ⟨vs, h1, h2⟩ := s.hl
    refine ⟨_, rfl, x, C, dx, _, rfl, s.ob, rfl, lkSn (by decide +kernel), _, rfl, x, dx, tn, ln, dn, names, ns, i, rfl, s, fun hi => ?_, (fun h => qx fun z => h z.1)⟩
    refine ⟨_, rfl, x, C, dx, _, rfl, s.ob, rfl, lkSn (by decide +kernel), _, rfl, x, dx, tn, ln, dn, names, ns, j, rfl, s, fun hj => ?_, (fun h => qx fun z => h z.2)⟩
    obtain ⟨a, rfl⟩ := Int.eq_ofNat_of_zero_le hi.1
    obtain ⟨c, rfl⟩ := Int.eq_ofNat_of_zero_le hj.1
    obtain ⟨ns', r, ⟨kn', hjn⟩, hle, q⟩ := qg a c rfl rfl (by omega) (by omega)
    refine ⟨_, rfl, x, _, dx, _, _, rfl, s.ob, T.sh.dr.opp.sh.c_Sheet.cl, T.sh.dr.opp.sh.n_nodes, lkS2, ln, rfl, _, .inl (SqL.of h1), ?_⟩
    refine ⟨_, rfl, x, C, dx, _, rfl, s.ob, rfl, lkSn (by decide +kernel), _, rfl, _, rfl, _, rfl, fun kd nkd => ?_⟩
    refine ⟨x, dx, tn, ln, dn, kd, names, ns, ns', fun _ _ => none, kn', [], a, c, stop, r, rfl, hs, s.keep (Same.new nkd), wf, Sh.KnOk.nil, upd_same, KnV.nil, (fun e => by rw [e, s.hd] at nkd; cases nkd), by omega, by omega, by omega, hjn, fun _ H3 kvs3 k3 s3 _ _ => ?_, fun g => absurd g (by omega)⟩
    exact q H3 (K3.drop (Same.new nkd) k3 nkd) s3
def spBothX (cs : Addr) (xc : Xc) (stop : Nat) : Sp := fun vs H Q E => ∃ (x dx tn ln dn : Addr) (names : List Str) (ns : List Sh.Nd) (i j : Int), vs = [.ref x, .int i, .int j] ∧ spJoinX cs xc H Q E x dx tn ln dn names ns i j stop
theorem disp_bothX (T : TTwo K mg cl xc cs) : DispAt P w K mg base (L2.CX P w) (fun C => C = cs) "both" 66 ["self", "one", "other"] (fun _ => spBothX cs xc 0) := by
  have GX_of_two := disp_of_twoX (P := P) (w := w) (base := base) T
  refine ⟨fun C hC => ?_⟩
  subst hC
  refine methAt_okX T.sh.dr.opp.sh.c_Sheet.cl T.m_both sc_Sheet_both (fun vs H Q E h => ?_) (fun fa cdv A outer st H vs Q E hr h => ?_)
  · obtain ⟨x, dx, tn, ln, dn, names, ns, i, j, rfl, _⟩ := h; rfl
  · obtain ⟨x, dx, tn, ln, dn, names, ns, i, j, rfl, J⟩ := h
    have hu := hu_of hr
    refine ⟨_, (pss_one (ps_ret (pe_methD GX_of_two hr (passX (L2.takes_of rfl rfl rfl rfl)) (pv 0) (pa_cons (pv 1) (pa_cons (pv 2) (pa_cons pe_int pa_nil)))))), ?_⟩
    walk_at "rd"
    exact ⟨_, rfl, x, C, dx, _, rfl, J.2.1.ob, rfl, lkSn (by decide +kernel), _, rfl, _, rfl, x, dx, tn, ln, dn, names, ns, i, j, 0, rfl, J⟩
theorem disp_eitherX (T : TTwo K mg cl xc cs) : DispAt P w K mg base (L2.CX P w) (fun C => C = cs) "either" 66 ["self", "one", "other"] (fun _ => spBothX cs xc 1) := by
  have GX_of_two := disp_of_twoX (P := P) (w := w) (base := base) T
  refine ⟨fun C hC => ?_⟩
  subst hC
  refine methAt_okX T.sh.dr.opp.sh.c_Sheet.cl T.m_either sc_Sheet_either (fun vs H Q E h => ?_) (fun fa cdv A outer st H vs Q E hr h => ?_)
  · obtain ⟨x, dx, tn, ln, dn, names, ns, i, j, rfl, _⟩ := h; rfl
  · obtain ⟨x, dx, tn, ln, dn, names, ns, i, j, rfl, J⟩ := h
    have hu := hu_of hr
    refine ⟨_, (pss_one (ps_ret (pe_methD GX_of_two hr (passX (L2.takes_of rfl rfl rfl rfl)) (pv 0) (pa_cons (pv 1) (pa_cons (pv 2) (pa_cons pe_int pa_nil)))))), ?_⟩
    walk_at "rd"
    exact ⟨_, rfl, x, C, dx, _, rfl, J.2.1.ob, rfl, lkSn (by decide +kernel), _, rfl, _, rfl, x, dx, tn, ln, dn, names, ns, i, j, 1, rfl, J⟩
def spTurnedX (cs : Addr) (xc : Xc) : Sp := fun vs H Q E => ∃ (x dx tn ln dn : Addr) (names : List Str) (ns : List Sh.Nd) (k : Int), vs = [.ref x, .int k] ∧ ShO cs H x dx tn ln dn names ns ∧ Sh.Wf names.length ns ∧ names.length ≤ 60 ∧
  Due cs xc H E x dx tn ln dn names ns k fun a => ∃ (ns' : List Sh.Nd) (r : Nat), (∃ kn', Sh.opp 61 ns (fun _ => none) a = some (r, ns', kn')) ∧ ns'.length ≤ 2000 ∧ ∀ H', K3 ln dn dn H H' → ShO cs H' x dx tn ln dn names ns' → Q (.int r) H'
theorem disp_turnedX (T : TTurn K mg cl xc cs) : DispAt P w K mg base (L2.CX P w) (fun C => C = cs) "turned" 65 ["self", "node"] (fun _ => spTurnedX cs xc) := by
  have GX_opposite : DispAt P w K mg base (L2.CX P w) (fun C => C = cs) "opposite" 64 ["self", "node", "known"] (fun _ => spOpp cs xc 61) := disp_opp T.sh.dr.opp 61
  have GX_need : DispAt P w K mg base (L2.CX P w) (fun C => C = cs) "need" 1 ["self", "node"] (fun _ => spNeed cs xc) := disp_need T.sh
  refine ⟨fun C hC => ?_⟩
  subst hC
  refine methAt_okX T.sh.dr.opp.sh.c_Sheet.cl T.m_turned sc_Sheet_turned (fun vs H Q E h => ?_) (fun fa cdv A outer st H vs Q E hr h => ?_)
  · obtain ⟨x, dx, tn, ln, dn, names, ns, k, rfl, _⟩ := h; rfl
  · obtain ⟨x, dx, tn, ln, dn, names, ns, k, rfl, s, wf, hl, qg, qx⟩ := h
    have hu := hu_of hr
    refine ⟨_, (pss_cons (ps_expr (pe_methD GX_need hr (passX (L2.takes_of rfl rfl rfl rfl)) (pv 0) (pa_cons (pv 1) pa_nil)))
        (pss_cons (ps_set (i := 2) sc_Sheet_turned.nd rfl (by first | exact Or.inl rfl | exact Or.inr rfl) (pe_callB call_len_seq (by rfl) T.z_len PySem.boot_len (pa_cons (pe_fld (pv 0) rfl) pa_nil)))
        (pss_one (ps_try_calm rfl (fun W pn xe tk _ => (pss_one (ps_ret (pe_methT GX_opposite hr tk (pv 0) (pa_cons (pv 1) (pa_cons pe_dnewK pa_nil)))))))))), ?_⟩
    walk_at "rd"
    obtain ⟨vs, h1, h2⟩ := s.hl
    refine ⟨_, rfl, x, C, dx, _, rfl, s.ob, rfl, lkSn (by decide +kernel), _, rfl, x, dx, tn, ln, dn, names, ns, k, rfl, s, fun hk => ?_, qx⟩
    obtain ⟨a, rfl⟩ := Int.eq_ofNat_of_zero_le hk.1
    obtain ⟨ns', r, ⟨kn', hj⟩, hle, q⟩ := qg a rfl (by omega)
    refine ⟨_, rfl, x, _, dx, _, _, rfl, s.ob, T.sh.dr.opp.sh.c_Sheet.cl, T.sh.dr.opp.sh.n_nodes, lkS2, ln, rfl, _, .inl (SqL.of h1), ?_⟩
    refine ⟨_, rfl, x, C, dx, _, rfl, s.ob, rfl, lkSn (by decide +kernel), _, rfl, fun kd nkd => ?_⟩
    refine ⟨x, dx, tn, ln, dn, kd, names, ns, ns', fun _ => none, kn', [], a, r, rfl, s.keep (Same.new nkd), wf, Sh.Kn1Ok.nil, upd_same, Kn1V.nil, by omega, by omega, hj, fun _ H3 kvs3 k3 s3 _ _ => ?_, fun g => absurd g (by omega)⟩
    exact q H3 (K3.drop (Same.new nkd) k3 nkd) s3
/-- a contact that the sheet has not -/
def spNodeX (cl : Cl) (cs : Addr) (xc : Xc) : Sp := fun vs H Q E => ∃ (x dx tn ln dn : Addr) (names : List Str) (ns : List Sh.Nd) (v : V) (c : Cond), vs = [.ref x, v] ∧
  ShO cs H x dx tn ln dn names ns ∧ IsP cl H v c ∧ c.depth ≤ 20 ∧ c.size ≤ 60 ∧ ¬ (∀ n ∈ c.contacts, n ∈ names) ∧ ∀ H', Same H H' → E (.ref xc.name) none H'
theorem disp_nodeX (T : TSh K mg cl xc cs) : DispAt P w K mg base (L2.CX P w) (fun C => C = cs) "node" 85 ["self", "part"] (fun _ => spNodeX cl cs xc) := by
  have GX_drawn : DispAt P w K mg base (L2.CX P w) (fun C => C = cs) "drawn" (20 + 64) ["self", "part"] (fun _ => spSDrawn cl cs xc 20) := disp_sdrawn T.dr 20
  have G_contacts : DispAt P w K mg base CX0 cl.has "contacts" 22 ["self"] (spContacts cl 20) := disp_contacts T.gather 20
  have e_NoName := T.e_name
  refine ⟨fun C hC => ?_⟩
  subst hC
  refine methAt_okX T.dr.opp.sh.c_Sheet.cl T.m_node sc_Sheet_node (fun vs H Q E h => ?_) (fun fa cdv A outer st H vs Q E hr h => ?_)
  · obtain ⟨x, dx, tn, ln, dn, names, ns, v, c, rfl, _⟩ := h; rfl
  · obtain ⟨x, dx, tn, ln, dn, names, ns, v, c, rfl, s, p, hdp, hsz, hno, qx⟩ := h
    have hu := hu_of hr
    refine ⟨_, (pss_cons (ps_for (L2.passes_of rfl) rfl (pi_tup (pe_methD0 G_contacts hr pass0 (pv 1))) (pg_name (i := 2) sc_Sheet_node.nd rfl (by first | exact Or.inl rfl | exact Or.inr rfl)) (pss_one (ps_if (pt_cmpR op_notIn_seq (pv 2) (pe_fld (pv 0) rfl) rfl) (pss_one (ps_raiseO rfl e_NoName (L2.takes_of rfl rfl rfl rfl))) pss_nil)))
        (pss_cons (ps_set (i := 3) sc_Sheet_node.nd rfl (by first | exact Or.inl rfl | exact Or.inr rfl) (pe_callB call_len_seq (by rfl) T.z_len PySem.boot_len (pa_cons (pe_fld (pv 0) rfl) pa_nil)))
        (pss_one (ps_try_calm rfl (fun W pn xe tk _ => (pss_one (ps_ret (pe_methT GX_drawn hr tk (pv 0) (pa_cons (pv 1) pa_nil))))))))), ?_⟩
    walk_at "rd"
    obtain ⟨a', C', dx', fs', rfl, ha', hC', hl'⟩ := meth_of (m := "contacts") (by decide +kernel) p
    refine ⟨_, rfl, a', C', dx', fs', rfl, ha', hC', hl', a', dx', fs', c, rfl, ha', p, hdp, by omega, fun H1 t1 s1 ht1 _ => ?_⟩
    have sh1 := s.keep s1
    refine ⟨t1, rfl, ⟨_, SqT.of ht1⟩, for_tup (K := K) (a := t1) (xs := c.contacts.map V.str) (fun i σ H' => ∃ v2 : Option V, σ = [some (.ref x), some (.ref a'), v2, none] ∧ H' = H1 ∧ ∀ n ∈ c.contacts.take i, n ∈ names) ⟨none, rfl, rfl, by simp⟩ (fun i σ H' _ ⟨_, _, e, _⟩ => by rw [e]; exact SqT.of ht1) ?_ ?_⟩
    · rintro i y σ H2 hy ⟨v2, rfl, rfl, hin⟩
      rw [List.getElem?_map] at hy
      obtain ⟨n, hn, rfl⟩ := Option.map_eq_some_iff.mp hy
      walk_at "rd"
      refine ⟨_, rfl, x, _, dx, _, _, rfl, sh1.ob, T.dr.opp.sh.c_Sheet.cl, T.dr.opp.sh.n_names, lkS1, tn, _, rfl, .inr sh1.hn.sq, rfl, all_flatN names, _, rfl, ?_⟩
      rw [inV_strs]
      by_cases hm : n ∈ names
      · rw [decide_eq_true hm]
        refine iteF ⟨rfl, fun m hm' => ?_⟩
        rw [List.take_succ, hn] at hm'
        rcases List.mem_append.mp hm' with hm' | hm'
        · exact hin m hm'
        · rw [List.mem_singleton.mp hm']; exact hm
      · rw [decide_eq_false hm]
        exact iteT (qx _ s1)
    · rintro σ H2 ⟨v2, rfl, rfl, hin⟩
      rw [List.length_map, List.take_length] at hin
      exact absurd hin hno
end

--%% MG0
/-! ## k35: how refused -/
abbrev s__law_class : Stmt := top 39
theorem sc__law_class : FnScope ["_law_e", "_law_some"] ["_law_e"] (defScope s__law_class) := ⟨rfl, rfl, rfl, by decide +kernel, rfl, by decide +kernel, by decide +kernel⟩
abbrev s__law_made : Stmt := top 40
theorem sc__law_made : FnScope ["_law_names_here", "_law_e"] ["_law_names_here"] (defScope s__law_made) := ⟨rfl, rfl, rfl, by decide +kernel, rfl, by decide +kernel, by decide +kernel⟩
abbrev s__law_asked : Stmt := top 41
theorem sc__law_asked : FnScope ["_law_sheet", "_law_which", "_law_node", "_law_other", "_law_e"] ["_law_sheet", "_law_which", "_law_node", "_law_other"] (defScope s__law_asked) := ⟨rfl, rfl, rfl, by decide +kernel, rfl, by decide +kernel, by decide +kernel⟩
abbrev s__law_drawn : Stmt := top 42
theorem sc__law_drawn : FnScope ["_law_sheet", "_law_part", "_law_e"] ["_law_sheet", "_law_part"] (defScope s__law_drawn) := ⟨rfl, rfl, rfl, by decide +kernel, rfl, by decide +kernel, by decide +kernel⟩
structure TOwn (K : PySem.W.Frag) (mg : Str → Option Value) (cl : Cl) (xc : Xc) (cs : Addr) : Prop where
  exs : TExs K mg xc
  shown : TShown K mg cl xc cs
  row : TRow K mg cl xc cs
  ways : TWays K mg cl xc cs
  two : TTwo K mg cl xc cs
  turn : TTurn K mg cl xc cs
  d_class : DefAt K mg "_law_class" s__law_class ["_law_e"]
  d_made : DefAt K mg "_law_made" s__law_made ["_law_names_here"]
  d_asked : DefAt K mg "_law_asked" s__law_asked ["_law_sheet", "_law_which", "_law_node", "_law_other"]
  d_drawn : DefAt K mg "_law_drawn" s__law_drawn ["_law_sheet", "_law_part"]
  z_isinstance : mg "isinstance" = none
  z_ValueError : mg "ValueError" = none
def spClass (xc : Xc) (a : Addr) (c : Value) (d : Option Addr) : Sp := fun vs H Q _ => ∃ b : Xk, (b = .name ∨ b = .sheet) ∧ vs = [.ref a] ∧ c = .ref (xc.at b) ∧ d = none ∧ ∀ H', Same H H' → Q (.str b.str) H'
section
variable {P : Program} {w : World} {K : PySem.W.Frag} {mg : Str → Option Value} {base : Heap} {cl : Cl} {xc : Xc} {cs : Addr}
theorem ok_class (T : TOwn K mg cl xc cs) : FnPAt P w K mg base CX0 "_law_class" 1 ["_law_e"] (spClass xc) := by
  have e_NoName := T.exs.e_name
  have e_NoPart := T.exs.e_part
  have e_NoEnd := T.exs.e_end
  have e_NoLadder := T.exs.e_ladder
  have e_NoText := T.exs.e_text
  have e_NoRow := T.exs.e_row
  have e_NoSheet := T.exs.e_sheet
  have e_NoState := T.exs.e_state
  have e_NoMatch := T.exs.e_match
  have e_TooMany := T.exs.e_many
  refine fnPAt_ok T.d_class sc__law_class (fun a c d vs H Q E h => ?_) (fun f cdv A outer s H vs Q E p c d hz hf hr h => ?_)
  · obtain ⟨b, _, rfl, _⟩ := h; rfl
  · obtain ⟨b, hb, rfl, rfl, rfl, k⟩ := h
    obtain ⟨xn, ex⟩ := T.exs.of b
    have hex := ex.is_
    have hp : p ∈ [p] := List.mem_singleton.mpr rfl
    refine ⟨_, (pss_cons (ps_set (i := 1) sc__law_class.nd rfl (by first | exact Or.inl rfl | exact Or.inr rfl) (pe_lst (pa_cons (pe_callB (call_isP hex hz hf hp) (by rfl) T.z_isinstance (by decide +kernel) (pa_cons (pv 0) (pa_cons (pe_exc e_NoName) pa_nil))) (pa_cons (pe_callB (call_isP hex hz hf hp) (by rfl) T.z_isinstance (by decide +kernel) (pa_cons (pv 0) (pa_cons (pe_exc e_NoSheet) pa_nil))) pa_nil))))
        (pss_cons (ps_if (pt_val (pe_callB (call_isPT hex hz hf hp) (by rfl) T.z_isinstance (by decide +kernel) (pa_cons (pv 0) (pa_cons (pe_tup (pa_cons (pe_exc e_NoEnd) (pa_cons (pe_exc e_NoLadder) (pa_cons (pe_exc e_NoMatch) (pa_cons (pe_exc e_NoPart) (pa_cons (pe_exc e_NoRow) (pa_cons (pe_exc e_NoState) (pa_cons (pe_exc e_NoText) (pa_cons (pe_exc e_TooMany) pa_nil))))))))) pa_nil)))) (pss_one (ps_ret pe_str)) pss_nil)
        (pss_cons (ps_if (PW.pt (pw_or (pt_not (pt_val (pe_callB (call_isP hex hz hf hp) (by rfl) T.z_isinstance (by decide +kernel) (pa_cons (pv 0) (pa_cons (pe_bltn (v := .ty "ValueError") (by rfl) T.z_ValueError (by decide +kernel) rfl) pa_nil))))) (pw_or1 (pt_cmpR op_ne (pe_bm PySem.F.plainAttrs_list PySem.F.slot_list_count PySem.F.type_list_count mt_countF (pv 1) (pa_cons pe_bl pa_nil)) pe_int (nomark _))))) (pss_one (ps_ret pe_str)) pss_nil)
        (pss_one (ps_ret (pe_ix ix_list (pe_lst (pa_cons pe_str (pa_cons pe_str pa_nil))) (pe_bm PySem.F.plainAttrs_list PySem.F.slot_list_index PySem.F.type_list_index mt_index (pv 1) (pa_cons pe_bl pa_nil)) (fun _ _ => rfl))))))), ?_⟩
    walk_at "rd"
    refine ⟨(.ref xc.name), (.ref xc.name), _, rfl, fun u r => r, T.exs.kit b .name, (.ref xc.sheet), (.ref xc.sheet), _, rfl, fun u r => r, T.exs.kit b .sheet, line_ge (by simp), fun l1 n1 => ⟨line_ge (by simp), fun p1 np1 => ?_⟩⟩
    have m1 := Same.new (o := .lst [.bl (decide (b = .name)), .bl (decide (b = .sheet))]) n1
    have m2 := Same.new (o := .tup [.ref xc.end_, .ref xc.ladder, .ref xc.match_, .ref xc.part, .ref xc.row, .ref xc.state, .ref xc.text, .ref xc.many]) np1
    have hl1 := m2 _ _ (upd_same (H := H) (a := l1) (o := .lst [.bl (decide (b = .name)), .bl (decide (b = .sheet))]))
    have kA : PySem.W.kitAny K (.ref (xc.at b)) [.ref xc.end_, .ref xc.ladder, .ref xc.match_, .ref xc.part, .ref xc.row, .ref xc.state, .ref xc.text, .ref xc.many] = some false := by
      rcases hb with rfl | rfl
      · exact kitAny_cons (T.exs.kit .name .end_) (fun _ => kitAny_cons (T.exs.kit .name .ladder) (fun _ => kitAny_cons (T.exs.kit .name .match_) (fun _ => kitAny_cons (T.exs.kit .name .part) (fun _ => kitAny_cons (T.exs.kit .name .row) (fun _ => kitAny_cons (T.exs.kit .name .state) (fun _ => kitAny_cons (T.exs.kit .name .text) (fun _ => kitAny_cons (T.exs.kit .name .many) (fun _ => kitAny_nil) (fun h => absurd h (by decide))) (fun h => absurd h (by decide))) (fun h => absurd h (by decide))) (fun h => absurd h (by decide))) (fun h => absurd h (by decide))) (fun h => absurd h (by decide))) (fun h => absurd h (by decide))) (fun h => absurd h (by decide))
      · exact kitAny_cons (T.exs.kit .sheet .end_) (fun _ => kitAny_cons (T.exs.kit .sheet .ladder) (fun _ => kitAny_cons (T.exs.kit .sheet .match_) (fun _ => kitAny_cons (T.exs.kit .sheet .part) (fun _ => kitAny_cons (T.exs.kit .sheet .row) (fun _ => kitAny_cons (T.exs.kit .sheet .state) (fun _ => kitAny_cons (T.exs.kit .sheet .text) (fun _ => kitAny_cons (T.exs.kit .sheet .many) (fun _ => kitAny_nil) (fun h => absurd h (by decide))) (fun h => absurd h (by decide))) (fun h => absurd h (by decide))) (fun h => absurd h (by decide))) (fun h => absurd h (by decide))) (fun h => absurd h (by decide))) (fun h => absurd h (by decide))) (fun h => absurd h (by decide))
    refine ⟨p1, _, [.ref xc.end_, .ref xc.ladder, .ref xc.match_, .ref xc.part, .ref xc.row, .ref xc.state, .ref xc.text, .ref xc.many], false, rfl, upd_same, .cons (.own _) (.cons (.own _) (.cons (.own _) (.cons (.own _) (.cons (.own _) (.cons (.own _) (.cons (.own _) (.cons (.own _) .nil))))))), kA, false, rfl, iteF ⟨.ty "ValueError", .type "ValueError", true, rfl, fun u r => r, ex.kitV, true, rfl, iteF ?_⟩⟩
    have s12 := m1.trans m2
    generalize upd (upd H l1 (.lst [.bl (decide (b = .name)), .bl (decide (b = .sheet))])) p1 (.tup [.ref xc.end_, .ref xc.ladder, .ref xc.match_, .ref xc.part, .ref xc.row, .ref xc.state, .ref xc.text, .ref xc.many]) = H2 at s12 hl1 ⊢
    have cnt : ([.bl (decide (b = .name)), .bl (decide (b = .sheet))] : List V).countP (fun z => eqV z (.bl true)) = 1 := by rcases hb with rfl | rfl <;> rfl
    refine ⟨_, rfl, .inl ⟨rfl, _, SqL.of hl1⟩, l1, [.bl (decide (b = .name)), .bl (decide (b = .sheet))], _, rfl, rfl, SqL.of hl1, rfl, rfl, ?_⟩
    rw [cnt]
    refine ⟨scal_ii, ?_⟩
    rw [decide_eq_true (show V.int ((1 : Nat) : Int) = V.int 1 from rfl)]
    refine iteF ⟨line_ge (by simp), fun l6 n6 => ?_⟩
    have m6 := Same.new (o := .lst [.str "name", .str "sheet"]) n6
    rcases hb with rfl | rfl
    · refine ⟨_, rfl, .inl ⟨rfl, _, SqL.of (m6 _ _ hl1)⟩, l1, _, .bl true, 0, .bl true, rfl, rfl, SqL.of (m6 _ _ hl1), rfl, rfl, rfl, rfl, fun m z hm _ => absurd hm (Nat.not_lt_zero m), ?_⟩
      exact ⟨l6, _, _, .str "name", rfl, rfl, SqL.of upd_same, rfl, k _ (s12.trans m6)⟩
    · refine ⟨_, rfl, .inl ⟨rfl, _, SqL.of (m6 _ _ hl1)⟩, l1, _, .bl true, 1, .bl true, rfl, rfl, SqL.of (m6 _ _ hl1), rfl, rfl, rfl, rfl, fun m z hm hz => ?_, ?_⟩
      · obtain rfl : m = 0 := by omega
        cases hz
        rfl
      exact ⟨l6, _, _, .str "sheet", rfl, rfl, SqL.of upd_same, rfl, k _ (s12.trans m6)⟩
def spMade35 (K : PySem.W.Frag) : Sp := fun vs H Q _ => ∃ (l : Addr) (names : List Str), vs = [.ref l] ∧ (SqL K H l (names.map V.str) ∨ TupN H l (names.map V.str)) ∧ names.length ≤ 1000 ∧ (∀ n ∈ names, n.length ≤ 1000) ∧
  ∀ (H' : Hp) (due : Str), Same H H' → ((∀ n ∈ names, isName n = true) → names.length ≤ 60 → names.Nodup → due = "good") → (¬ (∀ n ∈ names, isName n = true) → due = "name") → ((∀ n ∈ names, isName n = true) → ¬ (names.length ≤ 60 ∧ names.Nodup) → due = "sheet") → Q (.str due) H'
theorem ok_made (T : TOwn K mg cl xc cs) : FnAt P w K mg base CX0 "_law_made" 10 ["_law_names_here"] (spMade35 K) := by
  have MX_Sheet := ok_init_sh (P := P) (w := w) (base := base) T.shown.sh
  have e_LadderError := T.exs.e_err
  have G__law_class := ok_class (P := P) (w := w) (base := base) T
  refine fnAt_ok T.d_made sc__law_made (fun vs H Q E h => ?_) (fun f cdv A outer s H vs Q E hr h => ?_)
  · obtain ⟨l, names, rfl, _⟩ := h; rfl
  · obtain ⟨l, names, rfl, hl, hlen, hsz, k⟩ := h
    refine ⟨_, (pss_cons (ps_try_as (i := 1) rfl rfl sc__law_made.nd rfl rfl ⟨rfl, by decide, .inl e_LadderError.gP⟩ takesN (fun W pn xe tk _ => (pss_one (ps_expr (pe_makeT MX_Sheet hr tk (pa_cons (pv 0) pa_nil))))) (fun a oe cls d pn hz hf => (pss_one (ps_ret (pe_callP G__law_class hz hf hr (pa_cons (pv 1) pa_nil))))))
        (pss_one (ps_ret pe_str))), ?_⟩
    refine ⟨_, rfl, fun x dx nx nd _ => ⟨H, x, dx, l, names, rfl, upd_same, same_mkS nx nd, nx, hl, hlen, fun n hn => line_ge (Nat.le_trans (hsz n hn) (by decide)), fun ha h60 hnd H' tn ln dn sh s _ _ => ⟨rfl, ?_⟩, fun hno H1 s1 => ⟨true, T.exs.e_name.caught e_LadderError, fun _ a ha => ⟨_, rfl, .name, .inl rfl, rfl, rfl, rfl, fun H2 s2 => k _ "name" (s1.trans s2) (fun z => absurd z hno) (fun _ => rfl) (fun z => absurd z hno)⟩, fun z => nomatch z⟩, fun hok hno H1 s1 => ⟨true, T.exs.e_sheet.caught e_LadderError, fun _ a ha => ⟨_, rfl, .sheet, .inr rfl, rfl, rfl, rfl, fun H2 s2 => k _ "sheet" (s1.trans s2) (fun _ z1 z2 => absurd ⟨z1, z2⟩ hno) (fun z => absurd hok z) (fun _ _ => rfl)⟩, fun z => nomatch z⟩⟩⟩
    walk_at "rd"
    exact k H' "good" s (fun _ _ _ => rfl) (fun z => absurd ha z) (fun _ z => absurd ⟨h60, hnd⟩ z)
def spAsked (cs : Addr) : Sp := fun vs H Q _ => ∃ (x dx tn ln dn : Addr) (names : List Str) (ns : List Sh.Nd) (wh i j : Int), vs = [.ref x, .int wh, .int i, .int j] ∧ ShO cs H x dx tn ln dn names ns ∧ Sh.Wf names.length ns ∧ names.length ≤ 4 ∧ names.Nodup ∧ 0 ≤ wh ∧ wh < 8 ∧ 0 ≤ j ∧ j < ns.length + 2 ∧
  ((¬ (0 ≤ i ∧ i < ns.length + 2) ∧ ∀ H', Same H H' → Q (.str "sheet") H') ∨
   (0 ≤ i ∧ i < ns.length + 2 ∧ ns.length ≤ 1900 ∧ ∀ H' ns', K3 ln dn dn H H' → ShO cs H' x dx tn ln dn names ns' → Sh.Wf names.length ns' → ExtN ns ns' → ns'.length ≤ ns.length + 15 → Q (.str "good") H'))
theorem ok_asked (T : TOwn K mg cl xc cs) : FnAt P w K mg base CX0 "_law_asked" 70 ["_law_sheet", "_law_which", "_law_node", "_law_other"] (spAsked cs) := by
  have GX_shown := disp_shown (P := P) (w := w) (base := base) T.shown
  have GX_row := disp_rowX (P := P) (w := w) (base := base) T.row
  have GX_ways := disp_waysX (P := P) (w := w) (base := base) T.ways
  have GX_both := disp_bothX (P := P) (w := w) (base := base) T.two
  have GX_either := disp_eitherX (P := P) (w := w) (base := base) T.two
  have GX_turned := disp_turnedX (P := P) (w := w) (base := base) T.turn
  have e_LadderError := T.exs.e_err
  have G__law_class := ok_class (P := P) (w := w) (base := base) T
  refine fnAt_ok T.d_asked sc__law_asked (fun vs H Q E h => ?_) (fun f cdv A outer s H vs Q E hr h => ?_)
  · obtain ⟨x, dx, tn, ln, dn, names, ns, wh, i, j, rfl, _⟩ := h; rfl
  · obtain ⟨x, dx, tn, ln, dn, names, ns, wh, i, j, rfl, s0, wf, hl, hnd, w0, w8, j0, j1, k⟩ := h
    refine ⟨_, (pss_cons (ps_try_as (i := 4) rfl rfl sc__law_asked.nd rfl rfl ⟨rfl, by decide, .inl e_LadderError.gP⟩ takesN (fun W pn xe tk _ => (pss_one (ps_if (pt_cmpR op_eq (pv 1) pe_int (nomark _)) (pss_one (ps_expr (pe_methT GX_shown hr tk (pv 0) (pa_cons (pv 2) pa_nil)))) (pss_one (ps_if (pt_cmpR op_eq (pv 1) pe_int (nomark _)) (pss_one (ps_expr (pe_methT GX_row hr tk (pv 0) (pa_cons (pv 2) pa_nil)))) (pss_one (ps_if (pt_cmpR op_eq (pv 1) pe_int (nomark _)) (pss_one (ps_expr (pe_methT GX_ways hr tk (pv 0) (pa_cons (pv 2) pa_nil)))) (pss_one (ps_if (pt_cmpR op_eq (pv 1) pe_int (nomark _)) (pss_one (ps_expr (pe_methT GX_both hr tk (pv 0) (pa_cons (pv 2) (pa_cons (pv 3) pa_nil))))) (pss_one (ps_if (pt_cmpR op_eq (pv 1) pe_int (nomark _)) (pss_one (ps_expr (pe_methT GX_either hr tk (pv 0) (pa_cons (pv 3) (pa_cons (pv 2) pa_nil))))) (pss_one (ps_if (pt_cmpR op_eq (pv 1) pe_int (nomark _)) (pss_one (ps_expr (pe_methT GX_both hr tk (pv 0) (pa_cons (pv 3) (pa_cons (pv 2) pa_nil))))) (pss_one (ps_if (pt_cmpR op_eq (pv 1) pe_int (nomark _)) (pss_one (ps_expr (pe_methT GX_either hr tk (pv 0) (pa_cons (pv 2) (pa_cons (pv 3) pa_nil))))) (pss_one (ps_expr (pe_methT GX_turned hr tk (pv 0) (pa_cons (pv 2) pa_nil))))))))))))))))))) (fun a oe cls d pn hz hf => (pss_one (ps_ret (pe_callP G__law_class hz hf hr (pa_cons (pv 4) pa_nil))))))
        (pss_one (ps_ret pe_str))), ?_⟩
    walk_at "rd"
    by_cases e0 : wh = 0
    · rw [decide_eq_true e0]
      refine iteT ⟨_, rfl, x, cs, dx, _, rfl, s0.ob, rfl, lkSn (by decide +kernel), _, rfl, x, dx, tn, ln, dn, names, ns, i, rfl, s0, ?_⟩
      rcases k with ⟨hno, k⟩ | ⟨i0, i1, h19, k⟩
      · exact ⟨fun z => absurd ⟨z.1, by omega⟩ hno, (fun nde h2 e => absurd ⟨by omega, by have := (List.getElem?_eq_some_iff.mp e).1; omega⟩ hno), fun _ H1 s1 => ⟨true, T.exs.e_sheet.caught e_LadderError, fun _ a ha => ⟨_, rfl, .sheet, .inr rfl, rfl, rfl, rfl, fun H2 s2 => k _ (s1.trans s2)⟩, fun z => nomatch z⟩⟩
      · exact ⟨fun _ H1 t s1 _ => k H1 ns (Same.k3 s1) (s0.keep s1) wf (ExtN.refl _) (by omega), fun _ _ _ _ _ => k H ns (K3.refl H) s0 wf (ExtN.refl _) (by omega), fun z => absurd ⟨i0, i1⟩ z⟩
    rw [decide_eq_false e0]
    refine iteF ?_
    have hp4 : 2 ^ names.length ≤ 2 ^ 4 := Nat.pow_le_pow_right (by decide) hl
    by_cases e1 : wh = 1
    · rw [decide_eq_true e1]
      refine iteT ⟨_, rfl, x, cs, dx, _, rfl, s0.ob, rfl, lkSn (by decide +kernel), _, rfl, x, dx, tn, ln, dn, names, ns, i, rfl, s0, wf, by omega, hnd, ?_⟩
      rcases k with ⟨hno, k⟩ | ⟨i0, i1, h19, k⟩
      · exact ⟨fun a ea ha => absurd ⟨by omega, by omega⟩ hno, fun _ H1 s1 => ⟨true, T.exs.e_sheet.caught e_LadderError, fun _ a ha => ⟨_, rfl, .sheet, .inr rfl, rfl, rfl, rfl, fun H2 s2 => k _ (s1.trans s2)⟩, fun z => nomatch z⟩⟩
      · exact ⟨fun a ea ha => ⟨fun _ => k H ns (K3.refl H) s0 wf (ExtN.refl _) (by omega), fun _ H1 d s1 _ _ => k H1 ns (Same.k3 s1) (s0.keep s1) wf (ExtN.refl _) (by omega)⟩, fun z => absurd ⟨i0, i1⟩ z⟩
    rw [decide_eq_false e1]
    refine iteF ?_
    by_cases e2 : wh = 2
    · rw [decide_eq_true e2]
      refine iteT ⟨_, rfl, x, cs, dx, _, rfl, s0.ob, rfl, lkSn (by decide +kernel), _, rfl, x, dx, tn, ln, dn, names, ns, i, rfl, s0, wf, by omega, ?_⟩
      rcases k with ⟨hno, k⟩ | ⟨i0, i1, h19, k⟩
      · exact ⟨fun a ea ha => absurd ⟨by omega, by omega⟩ hno, fun _ H1 s1 => ⟨true, T.exs.e_sheet.caught e_LadderError, fun _ a ha => ⟨_, rfl, .sheet, .inr rfl, rfl, rfl, rfl, fun H2 s2 => k _ (s1.trans s2)⟩, fun z => nomatch z⟩⟩
      · exact ⟨fun a ea ha H1 s1 => k H1 ns (Same.k3 s1) (s0.keep s1) wf (ExtN.refl _) (by omega), fun z => absurd ⟨i0, i1⟩ z⟩
    rw [decide_eq_false e2]
    refine iteF ?_
    by_cases e3 : wh = 3
    · rw [decide_eq_true e3]
      refine iteT ⟨_, rfl, x, cs, dx, _, rfl, s0.ob, rfl, lkSn (by decide +kernel), _, rfl, _, rfl, x, dx, tn, ln, dn, names, ns, i, j, rfl, by decide, s0, wf, by omega, ?_⟩
      rcases k with ⟨hno, k⟩ | ⟨i0, i1, h19, k⟩
      · exact ⟨fun a c ea ec ha hc => absurd ⟨by omega, by omega⟩ hno, fun _ H1 s1 => ⟨true, T.exs.e_sheet.caught e_LadderError, fun _ a ha => ⟨_, rfl, .sheet, .inr rfl, rfl, rfl, rfl, fun H2 s2 => k _ (s1.trans s2)⟩, fun z => nomatch z⟩⟩
      · refine ⟨fun a c ea ec ha hc => ?_, fun z => absurd ⟨⟨by omega, by omega⟩, ⟨by omega, by omega⟩⟩ z⟩
        obtain ⟨r, M, hj, wM, xM, _, lM, _⟩ := join_step (n := names.length) (stop := 0) (N := ns) (a := a) (c := c) (g := fun b => Sh.ev ns a b) (h := fun b => Sh.ev ns c b) (by omega) (by decide) wf ⟨ha, fun _ => rfl⟩ ⟨hc, fun _ => rfl⟩
        exact ⟨M, r, hj, by omega, fun H1 k1 sh1 => k H1 M k1 sh1 wM xM (by omega)⟩
    rw [decide_eq_false e3]
    refine iteF ?_
    by_cases e4 : wh = 4
    · rw [decide_eq_true e4]
      refine iteT ⟨_, rfl, x, cs, dx, _, rfl, s0.ob, rfl, lkSn (by decide +kernel), _, rfl, _, rfl, x, dx, tn, ln, dn, names, ns, j, i, rfl, by decide, s0, wf, by omega, ?_⟩
      rcases k with ⟨hno, k⟩ | ⟨i0, i1, h19, k⟩
      · exact ⟨fun a c ea ec ha hc => absurd ⟨by omega, by omega⟩ hno, fun _ H1 s1 => ⟨true, T.exs.e_sheet.caught e_LadderError, fun _ a ha => ⟨_, rfl, .sheet, .inr rfl, rfl, rfl, rfl, fun H2 s2 => k _ (s1.trans s2)⟩, fun z => nomatch z⟩⟩
      · refine ⟨fun a c ea ec ha hc => ?_, fun z => absurd ⟨⟨by omega, by omega⟩, ⟨by omega, by omega⟩⟩ z⟩
        obtain ⟨r, M, hj, wM, xM, _, lM, _⟩ := join_step (n := names.length) (stop := 1) (N := ns) (a := a) (c := c) (g := fun b => Sh.ev ns a b) (h := fun b => Sh.ev ns c b) (by omega) (by decide) wf ⟨ha, fun _ => rfl⟩ ⟨hc, fun _ => rfl⟩
        exact ⟨M, r, hj, by omega, fun H1 k1 sh1 => k H1 M k1 sh1 wM xM (by omega)⟩
    rw [decide_eq_false e4]
    refine iteF ?_
    by_cases e6 : wh = 6
    · rw [decide_eq_true e6]
      refine iteT ⟨_, rfl, x, cs, dx, _, rfl, s0.ob, rfl, lkSn (by decide +kernel), _, rfl, _, rfl, x, dx, tn, ln, dn, names, ns, j, i, rfl, by decide, s0, wf, by omega, ?_⟩
      rcases k with ⟨hno, k⟩ | ⟨i0, i1, h19, k⟩
      · exact ⟨fun a c ea ec ha hc => absurd ⟨by omega, by omega⟩ hno, fun _ H1 s1 => ⟨true, T.exs.e_sheet.caught e_LadderError, fun _ a ha => ⟨_, rfl, .sheet, .inr rfl, rfl, rfl, rfl, fun H2 s2 => k _ (s1.trans s2)⟩, fun z => nomatch z⟩⟩
      · refine ⟨fun a c ea ec ha hc => ?_, fun z => absurd ⟨⟨by omega, by omega⟩, ⟨by omega, by omega⟩⟩ z⟩
        obtain ⟨r, M, hj, wM, xM, _, lM, _⟩ := join_step (n := names.length) (stop := 0) (N := ns) (a := a) (c := c) (g := fun b => Sh.ev ns a b) (h := fun b => Sh.ev ns c b) (by omega) (by decide) wf ⟨ha, fun _ => rfl⟩ ⟨hc, fun _ => rfl⟩
        exact ⟨M, r, hj, by omega, fun H1 k1 sh1 => k H1 M k1 sh1 wM xM (by omega)⟩
    rw [decide_eq_false e6]
    refine iteF ?_
    by_cases e7 : wh = 7
    · rw [decide_eq_true e7]
      refine iteT ⟨_, rfl, x, cs, dx, _, rfl, s0.ob, rfl, lkSn (by decide +kernel), _, rfl, _, rfl, x, dx, tn, ln, dn, names, ns, i, j, rfl, by decide, s0, wf, by omega, ?_⟩
      rcases k with ⟨hno, k⟩ | ⟨i0, i1, h19, k⟩
      · exact ⟨fun a c ea ec ha hc => absurd ⟨by omega, by omega⟩ hno, fun _ H1 s1 => ⟨true, T.exs.e_sheet.caught e_LadderError, fun _ a ha => ⟨_, rfl, .sheet, .inr rfl, rfl, rfl, rfl, fun H2 s2 => k _ (s1.trans s2)⟩, fun z => nomatch z⟩⟩
      · refine ⟨fun a c ea ec ha hc => ?_, fun z => absurd ⟨⟨by omega, by omega⟩, ⟨by omega, by omega⟩⟩ z⟩
        obtain ⟨r, M, hj, wM, xM, _, lM, _⟩ := join_step (n := names.length) (stop := 1) (N := ns) (a := a) (c := c) (g := fun b => Sh.ev ns a b) (h := fun b => Sh.ev ns c b) (by omega) (by decide) wf ⟨ha, fun _ => rfl⟩ ⟨hc, fun _ => rfl⟩
        exact ⟨M, r, hj, by omega, fun H1 k1 sh1 => k H1 M k1 sh1 wM xM (by omega)⟩
    rw [decide_eq_false e7]
    refine iteF ?_
    refine ⟨_, rfl, x, cs, dx, _, rfl, s0.ob, rfl, lkSn (by decide +kernel), _, rfl, x, dx, tn, ln, dn, names, ns, i, rfl, s0, wf, by omega, ?_⟩
    rcases k with ⟨hno, k⟩ | ⟨i0, i1, h19, k⟩
    · exact ⟨fun a ea ha => absurd ⟨by omega, by omega⟩ hno, fun _ H1 s1 => ⟨true, T.exs.e_sheet.caught e_LadderError, fun _ a ha => ⟨_, rfl, .sheet, .inr rfl, rfl, rfl, rfl, fun H2 s2 => k _ (s1.trans s2)⟩, fun z => nomatch z⟩⟩
    · refine ⟨fun a ea ha => ?_, fun z => absurd ⟨i0, i1⟩ z⟩
      obtain ⟨r, M, hj, wM, xM, _, lM, _⟩ := opp_step (n := names.length) (N := ns) (a := a) (g := fun b => Sh.ev ns a b) (by omega) wf ⟨ha, fun _ => rfl⟩
      exact ⟨M, r, hj, by omega, fun H1 k1 sh1 => k H1 M k1 sh1 wM xM (by omega)⟩
def spDrawnX (cl : Cl) (cs : Addr) : Sp := fun vs H Q _ => ∃ (x dx tn ln dn : Addr) (names : List Str) (ns : List Sh.Nd) (v : V) (c : Cond), vs = [.ref x, v] ∧ ShO cs H x dx tn ln dn names ns ∧ IsP cl H v c ∧ c.depth ≤ 20 ∧ c.size ≤ 60 ∧ ¬ (∀ n ∈ c.contacts, n ∈ names) ∧ ∀ H', Same H H' → Q (.str "name") H'
theorem ok_drawnX (T : TOwn K mg cl xc cs) : FnAt P w K mg base CX0 "_law_drawn" 88 ["_law_sheet", "_law_part"] (spDrawnX cl cs) := by
  have GX_node := disp_nodeX (P := P) (w := w) (base := base) T.shown.sh
  have e_LadderError := T.exs.e_err
  have G__law_class := ok_class (P := P) (w := w) (base := base) T
  refine fnAt_ok T.d_drawn sc__law_drawn (fun vs H Q E h => ?_) (fun f cdv A outer s H vs Q E hr h => ?_)
  · obtain ⟨x, dx, tn, ln, dn, names, ns, v, c, rfl, _⟩ := h; rfl
  · obtain ⟨x, dx, tn, ln, dn, names, ns, v, c, rfl, s0, p, hd, hz', hno, k⟩ := h
    refine ⟨_, (pss_cons (ps_try_as (i := 2) rfl rfl sc__law_drawn.nd rfl rfl ⟨rfl, by decide, .inl e_LadderError.gP⟩ takesN (fun W pn xe tk _ => (pss_one (ps_expr (pe_methT GX_node hr tk (pv 0) (pa_cons (pv 1) pa_nil))))) (fun a oe cls d pn hz hf => (pss_one (ps_ret (pe_callP G__law_class hz hf hr (pa_cons (pv 2) pa_nil))))))
        (pss_one (ps_ret pe_str))), ?_⟩
    walk_at "rd"
    exact ⟨_, rfl, x, cs, dx, _, rfl, s0.ob, rfl, lkSn (by decide +kernel), _, rfl, x, dx, tn, ln, dn, names, ns, v, c, rfl, s0, p, hd, hz', hno, fun H1 s1 => ⟨true, T.exs.e_name.caught e_LadderError, fun _ a ha => ⟨_, rfl, .name, .inl rfl, rfl, rfl, rfl, fun H2 s2 => k _ (s1.trans s2)⟩, fun z => nomatch z⟩⟩
end

--%% MG1
/-! ## k35: spoilt -/
abbrev s__law_spoilt : Stmt := top 43
theorem sc__law_spoilt : FnScope ["_law_names_here", "_law_cell", "_law_wrong", "_law_found", "_law_due", "_law_one", "_law_other", "_law_at"] ["_law_names_here", "_law_cell"] (defScope s__law_spoilt) := ⟨rfl, rfl, rfl, by decide +kernel, rfl, by decide +kernel, by decide +kernel⟩
structure TSp (K : PySem.W.Frag) (mg : Str → Option Value) : Prop where
  d_spoilt : DefAt K mg "_law_spoilt" s__law_spoilt ["_law_names_here", "_law_cell"]
  z_len : mg "len" = none
  z_list : mg "list" = none
def nm2 (i j : Nat) : Str := mkS [97 + i, 105 + j, 113]
def all64 : List Str := (List.range 8).flatMap fun i => (List.range 8).map fun j => nm2 i j
theorem all64_name : ∀ n ∈ all64, isName n = true := by decide +kernel
theorem all64_nd : all64.Nodup := by decide +kernel
theorem all64_len : all64.length = 64 := by decide +kernel
theorem all64_sm : ∀ n ∈ all64, n.length ≤ 9 := by decide +kernel
def wrongL : List Str := ["on", "or", "timer", "outputs", "A", "abcdefghi", "", "a b", "aA", "x1", "not", "inputs"]
theorem wrong_no : ∀ n ∈ wrongL, isName n = false := by decide +kernel
theorem wrong_sm : ∀ n ∈ wrongL, n.length ≤ 9 := by decide +kernel
theorem ah_at : ∀ i, i < 8 → ("abcdefgh" : Str).cps[i]? = some (97 + i) := by decide +kernel
theorem ip_at : ∀ i, i < 8 → ("ijklmnop" : Str).cps[i]? = some (105 + i) := by decide +kernel
theorem nm2_eq : ∀ i, i < 8 → ∀ j, j < 8 → (⟨#[97 + i]⟩ : Str) ++ ⟨#[105 + j]⟩ ++ ("q" : Str) = nm2 i j := by decide +kernel
theorem all64_step : ∀ i, i < 8 → all64.take (8 * i) ++ (List.range 8).map (fun j => nm2 i j) = all64.take (8 * (i + 1)) := by decide +kernel
theorem wrong_at {k : Int} (h0 : 0 ≤ k) (h1 : k < 12) : ∃ n ∈ wrongL, atI (wrongL.map V.str) k = some (.str n) := by
  obtain ⟨y, hy, hya⟩ := atI_ex (xs := wrongL.map V.str) h0 h1
  obtain ⟨n, hn, rfl⟩ := List.mem_map.mp hy
  exact ⟨n, hn, hya⟩
/-- what is due for a sheet of such names -/
def Due3 (names : List Str) (due : Str) : Prop := ((∀ n ∈ names, isName n = true) → names.length ≤ 60 → names.Nodup → due = "good") ∧ (¬ (∀ n ∈ names, isName n = true) → due = "name") ∧ ((∀ n ∈ names, isName n = true) → ¬ (names.length ≤ 60 ∧ names.Nodup) → due = "sheet")
/-- good so far, or one twice, or too many -/
def Half (names : List Str) (due : Str) : Prop := (∀ n ∈ names, isName n = true) ∧ names.length ≤ 61 ∧ (∀ n ∈ names, n.length ≤ 9) ∧ ((due = "good" ∧ names.length ≤ 60 ∧ names.Nodup) ∨ (due = "sheet" ∧ ¬ (names.length ≤ 60 ∧ names.Nodup)))
theorem Half.due {names : List Str} {due : Str} (h : Half names due) : Due3 names due := by
  obtain ⟨h1, _, _, h | h⟩ := h
  · exact ⟨fun _ _ _ => h.1, fun z => absurd h1 z, fun _ z => absurd h.2 z⟩
  · exact ⟨fun _ a b => absurd ⟨a, b⟩ h.2, fun z => absurd h1 z, fun _ _ => h.1⟩
section
variable {P : Program} {w : World} {K : PySem.W.Frag} {mg : Str → Option Value} {base : Heap}
def spSpoilt : Sp := fun vs H Q _ => ∃ (q : Addr) (c : Int) (l : List Str) (m : Nat), vs = [.ref q, .int c] ∧ NamesU H q l m ∧ 1 ≤ m ∧ m ≤ 4 ∧
  ∀ (H' : Hp) (t p : Addr) (names : List Str) (due : Str), Same H H' → H' t = some (.tup [.ref p, .str due]) → H' p = some (.lst (names.map V.str)) → names.length ≤ 62 → (∀ n ∈ names, n.length ≤ 9) → Due3 names due → Q (.ref t) H'
theorem ok_spoilt (T : TSp K mg) : FnAt P w K mg base CX0 "_law_spoilt" 2 ["_law_names_here", "_law_cell"] spSpoilt := by
  refine fnAt_ok T.d_spoilt sc__law_spoilt (fun vs H Q E h => ?_) (fun f cdv A outer st H vs Q E hr h => ?_)
  · obtain ⟨q, c, l, m, rfl, _⟩ := h; rfl
  · obtain ⟨q, c, l, m, rfl, hn, hm1, hm4, k⟩ := h
    have hll := hn.len
    refine ⟨_, (pss_cons (ps_set (i := 2) sc__law_spoilt.nd rfl (by first | exact Or.inl rfl | exact Or.inr rfl) (pe_lst (pa_cons pe_str (pa_cons pe_str (pa_cons pe_str (pa_cons pe_str (pa_cons pe_str (pa_cons pe_str (pa_cons pe_str (pa_cons pe_str (pa_cons pe_str (pa_cons pe_str (pa_cons pe_str (pa_cons pe_str pa_nil))))))))))))))
        (pss_cons (ps_set (i := 3) sc__law_spoilt.nd rfl (by first | exact Or.inl rfl | exact Or.inr rfl) (pe_callTy call_list_of (by rfl) T.z_list (show PySem.bootBuiltins "list" = some (.type "list") by decide +kernel) (pa_cons (pv 0) pa_nil)))
        (pss_cons (ps_set (i := 4) sc__law_spoilt.nd rfl (by first | exact Or.inl rfl | exact Or.inr rfl) pe_str)
        (C8.pss_cut (ps_if (PW.pt (pw_and (pt_cmpR op_eq (pe_op op_mod (pv 1) pe_int) pe_int (nomark _)) (pw_and1 (pt_cmpR op_gt (pe_callB call_len_seq (by rfl) T.z_len PySem.boot_len (pa_cons (pv 0) pa_nil)) pe_int (nomark _))))) (pss_cons (ps_set (i := 3) sc__law_spoilt.nd rfl (by first | exact Or.inl rfl | exact Or.inr rfl) (pe_op op_cat (pv 3) (pe_lst (pa_cons (pe_ix ix_list (pv 0) (pe_op op_mod (pe_op op_fdiv (pv 1) pe_int) (pe_callB call_len_seq (by rfl) T.z_len PySem.boot_len (pa_cons (pv 0) pa_nil))) (fun _ _ => rfl)) pa_nil))))
          (pss_one (ps_set (i := 4) sc__law_spoilt.nd rfl (by first | exact Or.inl rfl | exact Or.inr rfl) pe_str))) pss_nil)
        (C8.pss_cut (ps_if (pt_cmpR op_eq (pe_op op_mod (pv 1) pe_int) pe_int (nomark _)) (pss_cons (ps_set (i := 3) sc__law_spoilt.nd rfl (by first | exact Or.inl rfl | exact Or.inr rfl) (pe_lst pa_nil))
          (pss_cons (ps_for PassesOwn.never rfl (pi_str pe_str) (pg_name (i := 5) sc__law_spoilt.nd rfl (by first | exact Or.inl rfl | exact Or.inr rfl)) (pss_one (ps_set (i := 3) sc__law_spoilt.nd rfl (by first | exact Or.inl rfl | exact Or.inr rfl) (pe_op op_cat (pv 3) (pe_lc (own := [("_law_other", 6)]) (g := gName 6) (tt := tYes) rfl sc__law_spoilt.nd (pi_str pe_str) (blkOk_by (own := [("_law_other", 6)]) (N := ["_law_names_here", "_law_cell", "_law_wrong", "_law_found", "_law_due", "_law_one", "_law_other", "_law_at"]) (sc := defScope s__law_spoilt) (by decide +kernel)) (fun _ _ _ _ _ => pg_name (i := 6) sc__law_spoilt.nd rfl (Or.inl rfl)) (fun _ _ _ _ _ => pts_nil) (fun _ _ _ _ _ => (pe_op op_add_str (pe_op op_add_str (pv 5) (pv 6)) pe_str)))))))
          (pss_cons (ps_set (i := 3) sc__law_spoilt.nd rfl (by first | exact Or.inl rfl | exact Or.inr rfl) (pe_slice sl_list (pv 3) po_none (po_some (pe_op op_add pe_int (pe_op op_mod (pe_op op_fdiv (pv 1) pe_int) pe_int)))))
          (pss_one (ps_set (i := 4) sc__law_spoilt.nd rfl (by first | exact Or.inl rfl | exact Or.inr rfl) (pe_ix ix_list (pe_lst (pa_cons pe_str (pa_cons pe_str pa_nil))) (pe_op op_mod (pe_op op_fdiv (pv 1) pe_int) pe_int) (fun _ _ => rfl))))))) pss_nil)
        (C8.pss_cut (ps_if (pt_cmpR op_eq (pe_op op_mod (pe_op op_fdiv (pv 1) pe_int) pe_int) pe_int (nomark _)) (pss_cons (ps_set (i := 7) sc__law_spoilt.nd rfl (by first | exact Or.inl rfl | exact Or.inr rfl) (pe_op op_mod (pe_op op_fdiv (pv 1) pe_int) (pe_op op_add (pe_callB call_len_seq (by rfl) T.z_len PySem.boot_len (pa_cons (pv 3) pa_nil)) pe_int)))
          (pss_cons (ps_set (i := 3) sc__law_spoilt.nd rfl (by first | exact Or.inl rfl | exact Or.inr rfl) (pe_op op_cat (pe_op op_cat (pe_slice sl_list (pv 3) po_none (po_some (pv 7))) (pe_lst (pa_cons (pe_ix ix_list (pv 2) (pe_op op_mod (pe_op op_fdiv (pv 1) pe_int) (pe_callB call_len_seq (by rfl) T.z_len PySem.boot_len (pa_cons (pv 2) pa_nil))) (fun _ _ => rfl)) pa_nil))) (pe_slice sl_list (pv 3) (po_some (pv 7)) po_none)))
          (pss_one (ps_set (i := 4) sc__law_spoilt.nd rfl (by first | exact Or.inl rfl | exact Or.inr rfl) pe_str)))) pss_nil)
        (pss_one (ps_ret (pe_tup (pa_cons (pv 3) (pa_cons (pv 4) pa_nil))))))))))), ?_⟩
    walk_at "rd"
    refine ⟨line_ge (by simp), fun pw npw => ?_⟩
    have s1 := Same.new (o := .lst (wrongL.map V.str)) npw
    have hpw : upd H pw (.lst (wrongL.map V.str)) pw = some (.lst (wrongL.map V.str)) := upd_same
    refine ⟨_, .inl (SqL.of (s1 _ _ hn.at_)), fun p0 np0 => ?_⟩
    have s2 := Same.new (o := .lst (l.map V.str)) np0
    have hp0 : upd (upd H pw (.lst (wrongL.map V.str))) p0 (.lst (l.map V.str)) p0 = some (.lst (l.map V.str)) := upd_same
    have hpw := s2 _ _ hpw
    have s12 := s1.trans s2
    have sm0 : ∀ n ∈ l, n.length ≤ 9 := fun n h => Nat.le_trans (hn.sm n h) (by decide)
    refine ⟨fun σ' H' => ∃ (p : Addr) (names : List Str) (due : Str), σ' = [some (.ref q), some (.int c), some (.ref pw), some (.ref p), some (.str due), none, none, none] ∧ Same H H' ∧ H' pw = some (.lst (wrongL.map V.str)) ∧ H' p = some (.lst (names.map V.str)) ∧ Half names due, ?_, ?_⟩
    · walk_at "rd"
      refine ite2 (fun _ => ?_) (fun _ => ⟨_, _, _, ⟨rfl, rfl⟩, s12, hpw, hp0, hn.ok, by omega, sm0, .inl ⟨rfl, by omega, hn.nd⟩⟩)
      refine ⟨_, .inl (SqL.of (s12 _ _ hn.at_)), ?_⟩
      rw [decide_eq_true (show (0 : Int) < (((l.map V.str).length : Nat) : Int) by rw [List.length_map]; omega)]
      refine iteT ⟨_, .inl (SqL.of (s12 _ _ hn.at_)), by rw [List.length_map]; omega, ?_⟩
      rw [List.length_map]
      obtain ⟨y, hy, hya⟩ := atI_ex (xs := l.map V.str) (Int.emod_nonneg (c / 4) (show ((l.length : Nat) : Int) ≠ 0 by omega)) (by rw [List.length_map]; exact Int.emod_lt_of_pos _ (by omega))
      obtain ⟨nm, hnm, rfl⟩ := List.mem_map.mp hy
      refine ⟨q, _, _, .str nm, rfl, rfl, SqL.of (s12 _ _ hn.at_), hya, line_ge (by simp), fun p np => ⟨p0, p, _, [.str nm], rfl, rfl, Same.new np _ _ hp0, upd_same, line_ge (by simp; omega), fun p' np' => ⟨p', l ++ [nm], _, ⟨rfl, rfl⟩, (s12.trans (Same.new np)).trans (Same.new np'), Same.new np' _ _ (Same.new np _ _ hpw), ?_, ?_⟩⟩⟩
      · rw [upd_same, List.map_append]; rfl
      · refine ⟨fun n h => ?_, by simp; omega, fun n h => ?_, .inr ⟨rfl, fun z => ?_⟩⟩
        · rcases List.mem_append.mp h with h | h
          · exact hn.ok n h
          · rw [List.mem_singleton.mp h]; exact hn.ok nm hnm
        · rcases List.mem_append.mp h with h | h
          · exact sm0 n h
          · rw [List.mem_singleton.mp h]; exact sm0 nm hnm
        · exact (List.nodup_append.mp z.2).2.2 nm hnm nm (List.mem_singleton.mpr rfl) rfl
    rintro σ' H1 ⟨p1, nm1, du1, rfl, t1, hpw1, hp1, hf1⟩
    refine ⟨fun σ' H' => ∃ (p : Addr) (names : List Str) (due : Str) (v5 v6 : Option V), σ' = [some (.ref q), some (.int c), some (.ref pw), some (.ref p), some (.str due), v5, v6, none] ∧ Same H H' ∧ H' pw = some (.lst (wrongL.map V.str)) ∧ H' p = some (.lst (names.map V.str)) ∧ Half names due, ?_, ?_⟩
    · walk_at "rd"
      refine ite2 (fun _ => ⟨Nat.zero_le _, fun pz npz => ?_⟩) (fun _ => ⟨_, _, _, _, _, ⟨rfl, rfl, rfl, rfl⟩, t1, hpw1, hp1, hf1⟩)
      have u1 := t1.trans (Same.new (o := .lst []) npz)
      have hpw1z := Same.new (o := .lst []) npz _ _ hpw1
      have hpz : upd H1 pz (.lst []) pz = some (.lst []) := upd_same
      generalize upd H1 pz (.lst []) = Hz at u1 hpw1z hpz ⊢
      refine ⟨_, rfl, for_it walk_str (fun i σ H' => ∃ (p : Addr) (v5 v6 : Option V), σ = [some (.ref q), some (.int c), some (.ref pw), some (.ref p), some (.str du1), v5, v6, none] ∧ Same H H' ∧ H' pw = some (.lst (wrongL.map V.str)) ∧ H' p = some (.lst ((all64.take (8 * i)).map V.str))) ⟨pz, none, none, rfl, u1, hpw1z, hpz⟩ (fun _ _ _ _ _ => True.intro) ?_ ?_⟩
      · rintro i y σ H2' H2 hi ⟨p, v5, v6, rfl, u2, hpw2, hp2⟩ ⟨rfl, ch, hch, rfl⟩
        have hi : i < 8 := hi
        rw [ah_at i hi] at hch
        obtain rfl : 97 + i = ch := Option.some.inj hch
        walk_at "rd"
        refine ⟨_, rfl, fun D nD => lc_it walk_str (fun j H' => Same H2 H' ∧ H' D = some (.lst (((List.range 8).map fun j => V.str (nm2 i j)).take j))) ⟨Same.new nD, by rw [upd_same]; rfl⟩ (fun _ _ _ _ => True.intro) ?_ ?_⟩
        · rintro j y H3' H3 hj ⟨w1, w2⟩ ⟨rfl, ch, hch, rfl⟩
          have hj : j < 8 := hj
          rw [ip_at j hj] at hch
          obtain rfl : 105 + j = ch := Option.some.inj hch
          refine ⟨rfl, ?_⟩
          walk_at "rd"
          unfold tYes
          refine iteT ⟨line_ge (by show 1 + 1 ≤ _; decide), line_ge (by show 2 + 1 ≤ _; decide), ?_⟩
          rw [show (Str.ofString "q") = ("q" : Str) from rfl, nm2_eq i hi j hj]
          exact lc_push (L := (List.range 8).map fun j => V.str (nm2 i j)) w1 nD w2 (by rw [List.getElem?_map, List.getElem?_range hj]; rfl) (by simp)
        · rintro H3 ⟨w1, w2⟩
          have w2 : H3 D = some (.lst (((List.range 8).map fun j => V.str (nm2 i j)).take 8)) := w2
          rw [List.take_of_length_le (by simp)] at w2
          refine ⟨p, D, _, _, rfl, rfl, w1 _ _ hp2, w2, line_ge (by simp; omega), fun pe npe => ⟨pe, _, _, ⟨rfl, rfl, rfl⟩, (u2.trans w1).trans (Same.new npe), Same.new npe _ _ (w1 _ _ hpw2), ?_⟩⟩
          rw [upd_same, ← all64_step i hi, List.map_append, List.map_map]
          rfl
      · rintro σ H2 ⟨p, v5, v6, rfl, u2, hpw2, hp2⟩
        have hp2 : H2 p = some (.lst ((all64.take 64).map V.str)) := hp2
        rw [List.take_of_length_le (by rw [all64_len]; omega)] at hp2
        walk_at "rd"
        obtain ⟨i, ei, hi, h60⟩ : ∃ i : Nat, 60 + c / 4 % 2 = (i : Int) ∧ c / 4 % 2 = ((i - 60 : Nat) : Int) ∧ (i = 60 ∨ i = 61) := by
          have h0 := Int.emod_nonneg (c / 4) (show (2 : Int) ≠ 0 by omega)
          have h1 := Int.emod_lt_of_pos (c / 4) (show (0 : Int) < 2 by omega)
          exact ⟨(60 + c / 4 % 2).toNat, by omega, by omega, by omega⟩
        rw [ei, hi]
        refine slL_to i rfl (SqL.of hp2) fun pa npa => ⟨line_ge (by simp), fun pb npb => ?_⟩
        have u3 := Same.new (o := .lst ((all64.map V.str).take i)) npa
        have u4 := Same.new (o := .lst [.str "good", .str "sheet"]) npb
        have hfin := u4 _ _ (upd_same (H := H2) (a := pa) (o := .lst ((all64.map V.str).take i)))
        rw [← List.map_take] at hfin
        have ha : ∀ n ∈ all64.take i, n ∈ all64 := fun n h => List.mem_of_mem_take h
        have hl := all64_len
        rcases h60 with rfl | rfl
        · exact ⟨pb, _, _, .str "good", rfl, rfl, SqL.of upd_same, rfl, _, _, _, _, _, ⟨rfl, rfl, rfl, rfl⟩, (u2.trans u3).trans u4, u4 _ _ (u3 _ _ hpw2), hfin, fun n h => all64_name n (ha n h), by simp; omega, fun n h => all64_sm n (ha n h), .inl ⟨rfl, by simp; omega, all64_nd.sublist (List.take_sublist _ _)⟩⟩
        · exact ⟨pb, _, _, .str "sheet", rfl, rfl, SqL.of upd_same, rfl, _, _, _, _, _, ⟨rfl, rfl, rfl, rfl⟩, (u2.trans u3).trans u4, u4 _ _ (u3 _ _ hpw2), hfin, fun n h => all64_name n (ha n h), by simp; omega, fun n h => all64_sm n (ha n h), .inr ⟨rfl, fun z => by have := z.1; simp at this; omega⟩⟩
    rintro σ' H2 ⟨p2, nms2, du2, v5, v6, rfl, t2, hpw2, hp2, hf2⟩
    refine ⟨fun σ' H' => ∃ (p : Addr) (names : List Str) (due : Str) (v7 : Option V), σ' = [some (.ref q), some (.int c), some (.ref pw), some (.ref p), some (.str due), v5, v6, v7] ∧ Same H H' ∧ H' p = some (.lst (names.map V.str)) ∧ names.length ≤ 62 ∧ (∀ n ∈ names, n.length ≤ 9) ∧ Due3 names due, ?_, ?_⟩
    · walk_at "rd"
      have sm2 := hf2.2.2.1
      have l61 := hf2.2.1
      refine ite2 (fun _ => ⟨_, .inl (SqL.of hp2), by omega, ?_⟩) (fun _ => ⟨_, _, _, _, ⟨rfl, rfl, rfl⟩, t2, hp2, by omega, sm2, hf2.due⟩)
      rw [List.length_map]
      obtain ⟨i, ei, hi⟩ : ∃ i : Nat, c / 48 % (((nms2.length : Nat) : Int) + 1) = (i : Int) ∧ i ≤ nms2.length := by
        have h0 := Int.emod_nonneg (c / 48) (show ((nms2.length : Nat) : Int) + 1 ≠ 0 by omega)
        have h1 := Int.emod_lt_of_pos (c / 48) (show (0 : Int) < ((nms2.length : Nat) : Int) + 1 by omega)
        exact ⟨_, (Int.toNat_of_nonneg h0).symm, by omega⟩
      rw [ei]
      refine slL_to i rfl (SqL.of hp2) fun pa npa => ⟨_, .inl (SqL.of (Same.new npa _ _ hpw2)), by decide, ?_⟩
      obtain ⟨w, hw, hwa⟩ := wrong_at (k := c / 960 % 12) (Int.emod_nonneg _ (by decide)) (Int.emod_lt_of_pos _ (by decide))
      refine ⟨pw, wrongL.map V.str, c / 960 % 12, .str w, rfl, rfl, SqL.of (Same.new npa _ _ hpw2), hwa, line_ge (by simp), fun pb npb => ?_⟩
      have u1 := Same.new (o := .lst ((nms2.map V.str).take i)) npa
      have u2 := Same.new (o := .lst [.str w]) npb
      refine ⟨pa, pb, _, _, rfl, rfl, u2 _ _ upd_same, upd_same, line_ge (by simp; omega), fun pc npc => ?_⟩
      have u3 := Same.new (o := .lst ((nms2.map V.str).take i ++ [.str w])) npc
      refine slL_from i rfl (SqL.of (u3 _ _ (u2 _ _ (u1 _ _ hp2)))) fun pd npd => ?_
      have u4 := Same.new (o := .lst ((nms2.map V.str).drop i)) npd
      refine ⟨pc, pd, _, _, rfl, rfl, u4 _ _ upd_same, upd_same, line_ge (by simp; omega), fun pe npe => ?_⟩
      have u5 := Same.new (o := .lst ((nms2.map V.str).take i ++ [.str w] ++ (nms2.map V.str).drop i)) npe
      have mem : ∀ n ∈ nms2.take i ++ [w] ++ nms2.drop i, n ∈ nms2 ∨ n = w := fun n h => by
        rcases List.mem_append.mp h with h | h
        · rcases List.mem_append.mp h with h | h
          · exact .inl (List.mem_of_mem_take h)
          · exact .inr (List.mem_singleton.mp h)
        · exact .inl (List.mem_of_mem_drop h)
      refine ⟨pe, nms2.take i ++ [w] ++ nms2.drop i, _, _, ⟨rfl, rfl, rfl⟩, ((((t2.trans u1).trans u2).trans u3).trans u4).trans u5, ?_, by simp; omega, fun n h => ?_, ?_⟩
      · rw [upd_same, List.map_append, List.map_append, List.map_take, List.map_drop]; rfl
      · rcases mem n h with h | rfl
        · exact sm2 n h
        · exact wrong_sm _ hw
      · have no : ¬ (∀ n ∈ nms2.take i ++ [w] ++ nms2.drop i, isName n = true) := fun z => by
          have := z w (by simp)
          rw [wrong_no w hw] at this
          cases this
        exact ⟨fun z => absurd z no, fun _ => rfl, fun z => absurd z no⟩
    rintro σ' H3 ⟨p3, nms3, du3, v7, rfl, t3, hp3, h62, hsm, hdue⟩
    walk_at "rd"
    exact ⟨line_ge (by simp), fun t nt => k _ t p3 nms3 du3 (t3.trans (Same.new nt)) upd_same (Same.new nt _ _ hp3) h62 hsm hdue⟩
end

--%% MH
/-! ## k35: the law -/
abbrev s_law : Stmt := top 44
theorem sc_law : FnScope ["_law_script", "_law_names_here", "_law_cell", "_law_handed", "_law_due", "_law_sheet", "_law_parts", "_law_name", "_law_first", "_law_before", "_law_strange", "_law_wrong", "_law_k", "_law_far", "_law_node", "_law_which", "_law_other", "_law_after"] ["_law_script"] (defScope s_law) := ⟨rfl, rfl, rfl, by decide +kernel, rfl, by decide +kernel, by decide +kernel⟩
theorem dictB_eqd {l : List Str} {b : Nat → Bool} : ∀ q ∈ dL V.bl (dictB l b), valV (dL V.bl (dictB l b)) q.1 = some q.2 ∧ flatB q.2 = true := by
  intro q hq
  unfold dL dictB at hq
  rw [List.map_map] at hq
  obtain ⟨n, hn, rfl⟩ := List.mem_map.mp hq
  refine ⟨?_, rfl⟩
  show valV _ (Sum.inr n) = _
  rw [dL_get, dictB_get hn]
  rfl
theorem seqL_k3 {K : PySem.W.Frag} {a ln dn : Addr} {xs : List V} {H0 H H' : Hp} (h : SqL K H0 a xs) (s : Same H0 H) (k : K3 ln dn dn H H') (n1 : H0 ln = none) (n2 : H0 dn = none) : SqL K H' a xs := by
  have g : ∀ {o : HO}, H0 a = some o → H' a = some o := fun e => k _ _ (s _ _ e) (ne_of_none e n1) (ne_of_none e n2) (ne_of_none e n2)
  rcases h with (h | ⟨o, h⟩) | h
  · exact .inl (.inl (g h))
  · exact .inl (.inr ⟨o, g h⟩)
  · exact .inr h
theorem addN_self (l : List Str) (n : Str) : n ∈ addN l n := by
  unfold addN
  split
  · assumption
  · exact List.mem_append_right _ (List.mem_singleton.mpr rfl)
theorem mk_same {H H' : Hp} {x dx C : Addr} {fs : List (Str × V)} (nx : H x = none) (nd : H dx = none) (b : But x (upd (upd H dx (.own x)) x (.ins C dx fs)) H') : Same H H' := fun c o e => b c o (same_make nx nd c o e) (ne_of_none e nx)
theorem atI_endS {xs : List V} {x : V} (h : xs[xs.length - 1]? = some x) : atI xs (-1) = some x := by
  have hl := (List.getElem?_eq_some_iff.mp h).1
  obtain ⟨ys, y, rfl⟩ : ∃ ys y, xs = ys ++ [y] := ⟨xs.dropLast, xs.getLast (by intro e; rw [e] at hl; simp at hl), (List.dropLast_concat_getLast _).symm⟩
  simp at h
  subst h
  exact atI_last _ _
structure Txt (K : PySem.W.Frag) (mg : Str → Option Value) (cl : Cl) (xc : Xc) (cs : Addr) : Prop where
  law : LawAt K mg s_law "_law_script"
  own : TOwn K mg cl xc cs
  sp : TSp K mg
  cells : TCells K mg
  make : TMake K mg cl
  z_range : mg "range" = none
  z_list : mg "list" = none
  z_tuple : mg "tuple" = none
section
variable {P : Program} {w : World} {K : PySem.W.Frag} {mg : Str → Option Value} {cl : Cl} {xc : Xc} {cs : Addr}
def spShownA (cs : Addr) : Sp := fun vs H Q _ => ∃ (x dx tn ln dn : Addr) (names : List Str) (ns : List Sh.Nd) (a : Nat) (us : List V) (t : Addr), vs = [.ref x, .int a] ∧ ShO cs H x dx tn ln dn names ns ∧ 2 ≤ a ∧ a < ns.length + 2 ∧ H ln = some (.lst us) ∧ us[a - 2]? = some (.ref t) ∧ Q (.ref t) H
theorem disp_shownA {base : Heap} (T : TShown K mg cl xc cs) : DispAt P w K mg base (L2.CX P w) (fun C => C = cs) "shown" 2 ["self", "node"] (fun _ => spShownA cs) := by
  have GX_need : DispAt P w K mg base (L2.CX P w) (fun C => C = cs) "need" 1 ["self", "node"] (fun _ => spNeed cs xc) := disp_need T.sh
  refine ⟨fun C hC => ?_⟩
  subst hC
  refine methAt_okX T.sh.dr.opp.sh.c_Sheet.cl T.m_shown sc_Sheet_shown (fun vs H Q E h => ?_) (fun fa cdv A outer st H vs Q E hr h => ?_)
  · obtain ⟨x, dx, tn, ln, dn, names, ns, k, us, t, rfl, _⟩ := h; rfl
  · obtain ⟨x, dx, tn, ln, dn, names, ns, k, us, t, rfl, s, h2, hk, hus, ht, q⟩ := h
    have hu := hu_of hr
    refine ⟨_, (pss_cons (ps_if (pt_cmpR op_lt (pe_methD GX_need hr (passX (L2.takes_of rfl rfl rfl rfl)) (pv 0) (pa_cons (pv 1) pa_nil)) pe_int (nomark _)) (pss_one (ps_ret (pe_tup pa_nil))) pss_nil)
        (pss_one (ps_ret (pe_ix ix_list (pe_fld (pv 0) rfl) (pe_op op_sub (pv 1) pe_int) (fun _ _ => rfl))))), ?_⟩
    walk_at "rd"
    refine ⟨_, rfl, x, C, dx, _, rfl, s.ob, rfl, lkSn (by decide +kernel), _, rfl, x, dx, tn, ln, dn, names, ns, k, rfl, s, fun _ => ⟨_, rfl, ?_⟩, fun z => absurd ⟨by omega, by omega⟩ z⟩
    rw [decide_eq_false (show ¬ (k : Int) < 2 by omega)]
    exact iteF ⟨_, rfl, x, _, dx, _, _, rfl, s.ob, T.sh.dr.opp.sh.c_Sheet.cl, T.sh.dr.opp.sh.n_nodes, lkS2, ln, us, _, .ref t, rfl, rfl, SqL.of hus, atI_int (by omega) (by rw [show ((k : Int) - 2).toNat = k - 2 by omega]; exact ht), q⟩
theorem ok_law (T0 : Txt K mg cl xc cs) {base : Heap} {f : Addr} {fd : FuncData} (F : Fun K "law" "law" s_law f fd) : FnOk P w K mg base CX0 90 f fd ["_law_script"] (spLaw K) := by
  have G__law_cell_at : FnAt P w K mg base CX0 "_law_cell_at" 1 _ (spCellAt K) := ok_cell_at T0.cells
  have G__law_mixed : FnAt P w K mg base CX0 "_law_mixed" 1 _ spMixed := ok_mixed T0.cells
  have G__law_names : FnAt P w K mg base CX0 "_law_names" 3 _ spNamesQ := ok_namesQ T0.cells
  have G__law_spoilt := ok_spoilt (P := P) (w := w) (base := base) T0.sp
  have G__law_made := ok_made (P := P) (w := w) (base := base) T0.own
  have G__law_asked := ok_asked (P := P) (w := w) (base := base) T0.own
  have G__law_drawn := ok_drawnX (P := P) (w := w) (base := base) T0.own
  have M_Sheet := (ok_init_sh (P := P) (w := w) (base := base) T0.own.shown.sh).calm
  have M_Contact : MakAt P w K mg base CX0 "Contact" cl.ct 3 ["self", "name"] (spInitCt cl) := ok_init_ct T0.make
  have M_Fixed : MakAt P w K mg base CX0 "Fixed" cl.fx 1 ["self", "value"] (spInitFx cl) := ok_init_fx T0.make
  have M_Turned : MakAt P w K mg base CX0 "Turned" cl.tn 23 ["self", "part"] (spInitTn cl) := ok_init_tn T0.make
  have M_Series : MakAt P w K mg base CX0 "Series" cl.sr 23 ["self", "parts"] (spInitGr cl true) := ok_init_gr T0.make true T0.make.parts.c_Series T0.make.i_sr
  have M_Branch : MakAt P w K mg base CX0 "Branch" cl.br 23 ["self", "parts"] (spInitGr cl false) := ok_init_gr T0.make false T0.make.parts.c_Branch T0.make.i_br
  have G_node := disp_node (P := P) (w := w) (base := base) T0.own.shown.sh
  have G_shown := (disp_shownA (P := P) (w := w) (base := base) T0.own.shown).calm
  have G_row := disp_row (P := P) (w := w) (base := base) T0.own.row
  have G_ways := disp_ways (P := P) (w := w) (base := base) T0.own.ways
  have G_turned := disp_turned (P := P) (w := w) (base := base) T0.own.turn
  have n_names := T0.own.shown.sh.dr.opp.sh.n_names
  have c_Sheet := T0.own.shown.sh.dr.opp.sh.c_Sheet
  have T := T0
  refine F.ok sc_law (fun vs H Q E h => ?_) (fun cdv A outer st H vs Q E hr h => ?_)
  · obtain ⟨a, script, rfl, _⟩ := h; rfl
  · obtain ⟨a, script, rfl, hS, hlen, k⟩ := h
    have hu := hu_of hr
    refine ⟨_, (pss_cons (ps_set (i := 1) sc_law.nd rfl (by first | exact Or.inl rfl | exact Or.inr rfl) (pe_callF G__law_names hr pass0 (pa_cons (pe_callF G__law_cell_at hr pass0 (pa_cons (pv 0) (pa_cons pe_int pa_nil))) (pa_cons (pe_op op_add pe_int (pe_op op_mod (pe_callF G__law_cell_at hr pass0 (pa_cons (pv 0) (pa_cons pe_int pa_nil))) pe_int)) pa_nil))))
        (pss_cons (ps_set (i := 2) sc_law.nd rfl (by first | exact Or.inl rfl | exact Or.inr rfl) (pe_callF G__law_mixed hr pass0 (pa_cons (pe_callF G__law_cell_at hr pass0 (pa_cons (pv 0) (pa_cons pe_int pa_nil))) (pa_cons pe_int pa_nil))))
        (pss_cons (ps_asg (pe_callF G__law_spoilt hr pass0 (pa_cons (pv 1) (pa_cons (pe_op op_fdiv (pv 2) pe_int) pa_nil))) (pg_tup rfl (pgs_cons (pg_name (i := 3) sc_law.nd rfl (by first | exact Or.inl rfl | exact Or.inr rfl)) (pgs_cons (pg_name (i := 4) sc_law.nd rfl (by first | exact Or.inl rfl | exact Or.inr rfl)) pgs_nil))))
        (pss_cons (ps_if (pt_cmpR op_ne (pe_callF G__law_made hr pass0 (pa_cons (pe_ix ix_list (pe_lst (pa_cons (pe_callTy call_list_of (by rfl) T.z_list (show PySem.bootBuiltins "list" = some (.type "list") by decide +kernel) (pa_cons (pv 3) pa_nil)) (pa_cons (pe_callTy call_tuple_ofN (by rfl) T.z_tuple (show PySem.bootBuiltins "tuple" = some (.type "tuple") by decide +kernel) (pa_cons (pv 3) pa_nil)) pa_nil))) (pe_op op_mod (pv 2) pe_int) (fun _ _ => rfl)) pa_nil)) (pv 4) (nomark _)) (pss_one (ps_ret pe_bl)) pss_nil)
        (pss_cons (ps_set (i := 5) sc_law.nd rfl (by first | exact Or.inl rfl | exact Or.inr rfl) (pe_makeF M_Sheet hr pass0 (pa_cons (pv 1) pa_nil)))
        (pss_cons (ps_setLc (i := 6) (own := [("_law_name", 7)]) (g := gName 7) (tt := tYes) rfl sc_law.nd rfl rfl (sw_true rfl rfl rfl (by decide +kernel)) (pi_list (pv 1)) (blkOk_by (own := [("_law_name", 7)]) (N := ["_law_script", "_law_names_here", "_law_cell", "_law_handed", "_law_due", "_law_sheet", "_law_parts", "_law_name", "_law_first", "_law_before", "_law_strange", "_law_wrong", "_law_k", "_law_far", "_law_node", "_law_which", "_law_other", "_law_after"]) (sc := defScope s_law) (by decide +kernel)) (fun _ _ _ _ _ => pg_name (i := 7) sc_law.nd rfl (Or.inl rfl)) (fun _ _ _ _ _ => pts_nil) (fun _ _ _ _ _ => (pe_makeF M_Contact hr pass0 (pa_cons (pv 7) pa_nil))))
        (pss_cons (ps_set (i := 8) sc_law.nd rfl (by first | exact Or.inl rfl | exact Or.inr rfl) (pe_methD G_node hr pass0 (pv 5) (pa_cons (pe_ix ix_list (pv 6) pe_int (fun _ _ => rfl)) pa_nil)))
        (pss_cons (ps_set (i := 9) sc_law.nd rfl (by first | exact Or.inl rfl | exact Or.inr rfl) (pe_tup (pa_cons (pe_methD G_shown hr pass0 (pv 5) (pa_cons (pv 8) pa_nil)) (pa_cons (pe_methD G_row hr pass0 (pv 5) (pa_cons (pv 8) pa_nil)) (pa_cons (pe_methD G_ways hr pass0 (pv 5) (pa_cons (pv 8) pa_nil)) (pa_cons (pe_fld (pv 5) rfl) pa_nil))))))
        (pss_cons (ps_set (i := 10) sc_law.nd rfl (by first | exact Or.inl rfl | exact Or.inr rfl) (pe_makeF M_Contact hr pass0 (pa_cons pe_str pa_nil)))
        (pss_cons (ps_set (i := 11) sc_law.nd rfl (by first | exact Or.inl rfl | exact Or.inr rfl) (pe_lst (pa_cons (pe_makeF M_Series hr pass0 (pa_cons (pe_lst (pa_cons (pe_ix ix_list (pv 6) pe_int (fun _ _ => rfl)) (pa_cons (pe_makeF M_Turned hr pass0 (pa_cons (pv 10) pa_nil)) pa_nil))) pa_nil)) (pa_cons (pe_makeF M_Series hr pass0 (pa_cons (pe_lst (pa_cons (pe_makeF M_Fixed hr pass0 (pa_cons pe_bl pa_nil)) (pa_cons (pv 10) pa_nil))) pa_nil)) (pa_cons (pe_makeF M_Branch hr pass0 (pa_cons (pe_lst (pa_cons (pe_makeF M_Fixed hr pass0 (pa_cons pe_bl pa_nil)) (pa_cons (pv 10) pa_nil))) pa_nil)) pa_nil)))))
        (pss_cons (ps_set (i := 11) sc_law.nd rfl (by first | exact Or.inl rfl | exact Or.inr rfl) (pe_op op_cat (pv 11) (pe_lst (pa_cons (pe_makeF M_Series hr pass0 (pa_cons (pe_lst (pa_cons (pe_ix ix_list (pv 6) (pe_un un_neg pe_int) (fun _ _ => rfl)) (pa_cons (pv 10) pa_nil))) pa_nil)) (pa_cons (pe_makeF M_Branch hr pass0 (pa_cons (pe_lst (pa_cons (pe_makeF M_Turned hr pass0 (pa_cons (pe_ix ix_list (pv 6) (pe_un un_neg pe_int) (fun _ _ => rfl)) pa_nil)) (pa_cons (pv 10) pa_nil))) pa_nil)) (pa_cons (pv 10) pa_nil))))))
        (pss_cons (ps_for PassesOwn.never rfl (pi_range1 rfl T.z_range (pa_cons pe_int pa_nil)) (pg_name (i := 12) sc_law.nd rfl (by first | exact Or.inl rfl | exact Or.inr rfl)) (pss_one (ps_if (pt_cmpR op_ne (pe_callF G__law_drawn hr pass0 (pa_cons (pv 5) (pa_cons (pe_ix ix_list (pv 11) (pe_op op_mod (pe_op op_add (pv 12) (pe_callF G__law_cell_at hr pass0 (pa_cons (pv 0) (pa_cons pe_int pa_nil)))) pe_int) (fun _ _ => rfl)) pa_nil))) pe_str (nomark _)) (pss_one (ps_ret pe_bl)) pss_nil)))
        (pss_cons (ps_set (i := 13) sc_law.nd rfl (by first | exact Or.inl rfl | exact Or.inr rfl) (pe_op op_add (pe_op op_add (pv 8) pe_int) (pe_op op_mod (pe_callF G__law_cell_at hr pass0 (pa_cons (pv 0) (pa_cons pe_int pa_nil))) (pe_ix ix_list (pe_lst (pa_cons pe_int (pa_cons pe_int (pa_cons (pe_op op_pow pe_int pe_int) pa_nil)))) (pe_op op_mod (pe_callF G__law_cell_at hr pass0 (pa_cons (pv 0) (pa_cons pe_int pa_nil))) pe_int) (fun _ _ => rfl)))))
        (pss_cons (ps_for PassesOwn.never rfl (pi_list (pe_lst (pa_cons (pv 13) (pa_cons (pe_op op_add (pv 8) pe_int) (pa_cons (pe_un un_neg pe_int) (pa_cons (pe_un un_neg (pv 13)) pa_nil)))))) (pg_name (i := 14) sc_law.nd rfl (by first | exact Or.inl rfl | exact Or.inr rfl)) (pss_one (ps_for PassesOwn.never rfl (pi_range1 rfl T.z_range (pa_cons pe_int pa_nil)) (pg_name (i := 15) sc_law.nd rfl (by first | exact Or.inl rfl | exact Or.inr rfl)) (pss_cons (ps_set (i := 16) sc_law.nd rfl (by first | exact Or.inl rfl | exact Or.inr rfl) (pe_ix ix_list (pe_lst (pa_cons (pv 8) (pa_cons pe_int (pa_cons pe_int pa_nil)))) (pe_op op_fdiv (pv 15) pe_int) (fun _ _ => rfl)))
            (pss_one (ps_if (pt_cmpR op_ne (pe_callF G__law_asked hr pass0 (pa_cons (pv 5) (pa_cons (pe_op op_mod (pe_op op_add (pv 15) (pe_callF G__law_cell_at hr pass0 (pa_cons (pv 0) (pa_cons pe_int pa_nil)))) pe_int) (pa_cons (pv 14) (pa_cons (pv 16) pa_nil))))) pe_str (nomark _)) (pss_one (ps_ret pe_bl)) pss_nil))))))
        (pss_cons (ps_if (pt_cmpR (op_neTX hu) (pe_tup (pa_cons (pe_methD G_shown hr pass0 (pv 5) (pa_cons (pv 8) pa_nil)) (pa_cons (pe_methD G_row hr pass0 (pv 5) (pa_cons (pv 8) pa_nil)) (pa_cons (pe_methD G_ways hr pass0 (pv 5) (pa_cons (pv 8) pa_nil)) (pa_cons (pe_fld (pv 5) rfl) pa_nil))))) (pv 9) (nomark _)) (pss_one (ps_ret pe_bl)) pss_nil)
        (pss_cons (ps_set (i := 17) sc_law.nd rfl (by first | exact Or.inl rfl | exact Or.inr rfl) (pe_methD G_turned hr pass0 (pv 5) (pa_cons (pv 8) pa_nil)))
        (pss_cons (ps_for PassesOwn.never rfl (pi_range1 rfl T.z_range (pa_cons pe_int pa_nil)) (pg_name (i := 15) sc_law.nd rfl (by first | exact Or.inl rfl | exact Or.inr rfl)) (pss_one (ps_if (pt_cmpR op_ne (pe_callF G__law_asked hr pass0 (pa_cons (pv 5) (pa_cons (pv 15) (pa_cons (pv 17) (pa_cons (pv 8) pa_nil))))) pe_str (nomark _)) (pss_one (ps_ret pe_bl)) pss_nil)))
        (pss_one (ps_ret (pe_and (pe_cmpR op_eq (pe_methD G_turned hr pass0 (pv 5) (pa_cons (pv 17) pa_nil)) (pv 8) (nomark _)) (pe_one (pe_cmpR op_eq (pe_methD G_node hr pass0 (pv 5) (pa_cons (pe_ix ix_list (pv 6) pe_int (fun _ _ => rfl)) pa_nil)) (pv 8) (nomark _))))))))))))))))))))))), ?_⟩
    walk_at "rd"
    have nn : ∀ (i : Int) (n : Int), 0 < n → 0 ≤ i % n ∧ i % n < n := fun i n h => ⟨Int.emod_nonneg _ (by omega), Int.emod_lt_of_pos _ h⟩
    refine ⟨a, script, 0, rfl, hS, by omega, by decide, a, script, 1, rfl, hS, by omega, by decide, _, rfl, ?_⟩
    obtain ⟨m, hm, hm1, hm4⟩ : ∃ m : Nat, 1 + cellC script 1 % 4 = (m : Int) ∧ 1 ≤ m ∧ m ≤ 4 := by
      have := nn (cellC script 1) 4 (by decide)
      exact ⟨(1 + cellC script 1 % 4).toNat, by omega, by omega, by omega⟩
    rw [hm]
    refine ⟨_, m, rfl, by omega, fun H1 q l s1 nq hn hnq => ?_⟩
    have hll := hn.len
    have hS1 := Same.seq s1 hS
    refine ⟨a, script, 2, rfl, hS1, by omega, by decide, _, _, rfl, _, rfl, q, _, l, m, rfl, hn, hm1, hm4, fun H2 tp ph hd due s12 htp hph h62 hsm hdue => ?_⟩
    generalize mixed (cellC script 2) 3 = cell
    refine ⟨tp, _, rfl, SqT.of htp, rfl, ?_⟩
    walk_at "rd"
    refine ⟨_, .inl (SqL.of hph), fun lc nlc => ⟨_, .inl ⟨SqL.of (Same.new nlc _ _ hph), fun tc o ntc od => ⟨line_ge (by simp), fun pp npp => ?_⟩⟩⟩⟩
    have u1 := Same.new (o := .lst (hd.map V.str)) nlc
    have u2 := Same.new (o := .frz o (.tup (hd.map V.str))) ntc
    have u3 := Same.new (o := .lst [V.ref lc, V.ref tc]) npp
    have s23 := (u1.trans u2).trans u3
    have hlc := u3 _ _ (u2 _ _ (upd_same (H := H2) (a := lc) (o := .lst (hd.map V.str))))
    have htc := u3 _ _ (upd_same (H := upd H2 lc (.lst (hd.map V.str))) (a := tc) (o := .frz o (.tup (hd.map V.str))))
    have hpp := upd_same (H := upd (upd H2 lc (.lst (hd.map V.str))) tc (.frz o (.tup (hd.map V.str)))) (a := pp) (o := .lst [V.ref lc, V.ref tc])
    generalize upd (upd (upd H2 lc (.lst (hd.map V.str))) tc (.frz o (.tup (hd.map V.str)))) pp (.lst [V.ref lc, V.ref tc]) = H3 at s23 hlc htc hpp ⊢
    obtain ⟨b, hb, hbs⟩ : ∃ b, atI [V.ref lc, V.ref tc] (cell % 2) = some (.ref b) ∧ (SqL K H3 b (hd.map V.str) ∨ TupN H3 b (hd.map V.str)) := by
      have h2 := nn cell 2 (by decide)
      rcases (show cell % 2 = 0 ∨ cell % 2 = 1 by omega) with e | e
      · exact ⟨lc, by rw [e]; rfl, .inl (SqL.of hlc)⟩
      · exact ⟨tc, by rw [e]; rfl, .inr ⟨o, htc, od⟩⟩
    refine ⟨pp, _, _, .ref b, rfl, rfl, SqL.of hpp, hb, b, hd, rfl, hbs, by omega, fun n h => Nat.le_trans (hsm n h) (by decide), fun H4 due' s34 e1 e2 e3 => ⟨scal_ss, ?_⟩⟩
    obtain rfl : due' = due := by
      by_cases h1 : ∀ n ∈ hd, isName n = true
      · by_cases h2 : hd.length ≤ 60 ∧ hd.Nodup
        · rw [e1 h1 h2.1 h2.2, hdue.1 h1 h2.1 h2.2]
        · rw [e3 h1 h2, hdue.2.2 h1 h2]
      · rw [e2 h1, hdue.2.1 h1]
    rw [decide_eq_true rfl]
    refine iteF ?_
    have s14 := (s12.trans s23).trans s34
    have hn4 := hn.keep s14
    have hl60 : l.length ≤ 60 := by omega
    clear hbs hb hpp htc hlc u1 u2 u3 e1 e2 e3 hdue htp hph
    obtain ⟨n0, nr, ens⟩ : ∃ n0 nr, l = n0 :: nr := by
      cases l with
      | nil => simp at hll; omega
      | cons x y => exact ⟨x, y, rfl⟩
    have hn0 : n0 ∈ l := by rw [ens]; exact List.mem_cons_self
    refine ⟨_, rfl, fun x dx nx nd _ => ⟨H4, x, dx, q, l, rfl, upd_same, same_mkS nx nd, nx, .inl (SqL.of hn4.at_), by omega, fun n hn' => line_ge (Nat.le_trans (hn.sm n hn') (by decide)), fun _ _ _ H5 tn ln dn sh5 s45 nln ndn => ⟨rfl, ?_⟩, (fun h => absurd hn.ok h), (fun _ h => absurd ⟨by omega, hn.nd⟩ h)⟩⟩
    have hq5 := s45 _ _ hn4.at_
    refine ⟨_, rfl, q, rfl, ⟨_, SqL.of hq5⟩, fun D nD => lc_it walk_list (fun i H' => Same H5 H' ∧ ∃ vs, H' D = some (.lst vs) ∧ IsPs cl H' vs ((l.map Cond.contact).take i))
      ⟨Same.new nD, [], upd_same, by simpa using .nil⟩ (fun i H' _ z => SqL.of (z.1 _ _ hq5)) ?_ ?_⟩
    · rintro i y H7' H7 hi ⟨w1, vs, w2, w3⟩ ⟨rfl, hy⟩
      rw [List.getElem?_map] at hy
      obtain ⟨n, hn', rfl⟩ := Option.map_eq_some_iff.mp hy
      have hnl := List.mem_of_getElem? hn'
      have hl := w3.length
      rw [List.length_take] at hl
      have hvl : vs.length ≤ i := by rw [hl]; exact Nat.min_le_left _ _
      have hil := (List.getElem?_eq_some_iff.mp hn').1
      refine ⟨rfl, ?_⟩
      walk_at "rd"
      unfold tYes
      refine iteT ⟨_, rfl, fun x1 d1 nx1 nd1 _ => ⟨x1, d1, n, rfl, upd_same, line_ge (Nat.le_trans (hn.sm n hnl) (by decide)), hn.ok n hnl, fun H8 h8 b8 => ⟨rfl, ?_⟩⟩⟩
      have t := mk_same nx1 nd1 b8
      refine ⟨vs, t _ _ w2, by rw [sizeLine_eq]; omega, Same.mut (w1.trans t) nD, vs ++ [.ref x1], upd_same, ?_⟩
      have im : Imm cl.has H8 (upd H8 D (.lst (vs ++ [.ref x1]))) := Imm.mut (t _ _ w2) id
      rw [List.take_succ, List.getElem?_map, hn']
      exact ((w3.mono (Same.imm t)).mono im).snoc ((IsP.contact h8).mono im)
    rintro H6 ⟨s56, ys, hD6, hys⟩
    rw [List.take_of_length_le (by simp)] at hys
    have hyl := hys.length
    rw [List.length_map] at hyl
    obtain ⟨v0, hv0, p0⟩ : ∃ v0, ys[0]? = some v0 ∧ IsP cl H6 v0 (.contact n0) := by
      have e : ys[0]? = some ys[0] := List.getElem?_eq_getElem (by omega)
      obtain ⟨c, hc, p⟩ := hys.at e
      rw [ens] at hc
      cases hc
      exact ⟨_, e, p⟩
    obtain ⟨vZ, nZ, hvZ, hnZ, pZ⟩ : ∃ vZ nZ, ys[ys.length - 1]? = some vZ ∧ nZ ∈ l ∧ IsP cl H6 vZ (.contact nZ) := by
      have e : ys[ys.length - 1]? = some ys[ys.length - 1] := List.getElem?_eq_getElem (by omega)
      obtain ⟨c, hc, p⟩ := hys.at e
      obtain ⟨n, hn', rfl⟩ := List.mem_map.mp (List.mem_of_getElem? hc)
      exact ⟨_, n, e, hn', p⟩
    have sh6 := sh5.keep s56
    have win : ∀ n ∈ l, (Cond.contact n).within l = true := fun n h => by rw [Cond.within]; exact decide_eq_true h
    have hd1 : draw l (.contact n0) [] = some (2, [(0, 0, 1)]) := by
      rw [ens]
      simp [draw, ixOf, Sh.made, Sh.num?]
    obtain ⟨r, N1, d1, w1, x1, S1, l1, a1⟩ := draw_step (c := .contact n0) hl60 Sh.Wf.nil (win n0 hn0)
    rw [hd1] at d1
    cases d1
    have d0 : ∀ n, (Cond.contact n).depth = 1 := fun n => by rw [Cond.depth]
    have z0 : ∀ n, (Cond.contact n).size = 1 := fun n => by rw [Cond.size]
    refine ⟨_, rfl, x, cs, dx, _, rfl, sh6.ob, rfl, lkSn (by decide +kernel), _, rfl, D, ys, 0, v0, rfl, rfl, SqL.of hD6, atI_int (by decide) hv0, x, dx, tn, ln, dn, l, [], [(0, 0, 1)], v0, .contact n0, 2, rfl, sh6, Sh.Wf.nil, hl60, p0, by rw [d0]; decide, by rw [z0]; decide, win n0 hn0, hd1, by simp, fun H7 k67 sh7 => ?_⟩
    obtain ⟨us, hus7, htw⟩ := sh7.hl
    obtain ⟨t0, eus⟩ : ∃ t0, us[2 - 2]? = some (.ref t0) := by
      have hl := htw.length
      simp only [List.length_singleton] at hl
      have e : us[0]? = some us[0] := List.getElem?_eq_getElem (by omega)
      obtain ⟨_, _, t0, e2, _⟩ := htw.at e
      exact ⟨t0, by rw [e, e2]⟩
    have im67 : Imm cl.has H6 H7 := sh6.imm k67
    have p07 := p0.mono im67
    have pZ7 := pZ.mono im67
    have hD7 := k67 _ _ hD6 (fun e => by obtain ⟨vs, h1, _⟩ := sh5.hl; rw [← e] at h1; have := nD; rw [h1] at this; cases this) (sh6.n_dn hD6 fun _ e => by cases e) (sh6.n_dn hD6 fun _ e => by cases e)
    refine ⟨_, rfl, x, cs, dx, _, rfl, sh7.ob, rfl, lkSn (by decide +kernel), _, rfl, x, dx, tn, ln, dn, l, [(0, 0, 1)], 2, us, t0, rfl, sh7, by decide, by decide, hus7, eus, ?_⟩
    refine ⟨_, rfl, x, cs, dx, _, rfl, sh7.ob, rfl, lkSn (by decide +kernel), _, rfl, x, dx, tn, ln, dn, l, [(0, 0, 1)], 2, rfl, sh7, w1, hl60, hn.nd, by decide, (fun h => absurd h (by decide)), fun _ H8 pr s78 npr hpr => ?_⟩
    have sh8 := sh7.keep s78
    refine ⟨_, rfl, x, cs, dx, _, rfl, sh8.ob, rfl, lkSn (by decide +kernel), _, rfl, x, dx, tn, ln, dn, l, [(0, 0, 1)], 2, rfl, sh8, w1, hl60, by decide, fun H9 s89 => ?_⟩
    have sh9 := sh8.keep s89
    generalize hway : (((List.range (2 ^ l.length)).countP fun i => Sh.ev [(0, 0, 1)] 2 (bitN i) : Nat) : Int) = way
    refine ⟨_, rfl, x, cs, dx, _, _, rfl, sh9.ob, c_Sheet.cl, n_names, lkS1, line_ge (by simp), fun bt nbt => ?_⟩
    have hbt := upd_same (H := H9) (a := bt) (o := .tup [.ref t0, .ref pr, .int way, .ref tn])
    have s910 := Same.new (o := .tup [.ref t0, .ref pr, .int way, .ref tn]) nbt
    generalize upd H9 bt (.tup [.ref t0, .ref pr, .int way, .ref tn]) = HA at hbt s910 ⊢
    have s7A := (s78.trans s89).trans s910
    have hprA := s910 _ _ (s89 _ _ hpr)
    have okz : isName ("zzz" : Str) = true := by decide +kernel
    refine fun x1 d1 nx1 nd1 _ => ⟨x1, d1, ("zzz" : Str), rfl, upd_same, line_ge (by decide), okz, fun HB hB bB => ⟨rfl, ?_⟩⟩
    have sAB := mk_same nx1 nd1 bB
    have s7B := s7A.trans sAB
    have pzB : IsP cl HB (.ref x1) (.contact ("zzz" : Str)) := .contact hB
    have gz : ∀ {H' : Hp} {c : Cond} {v : V}, Same HB H' → IsP cl HB v c → IsP cl H' v c := fun s p => p.mono (Same.imm s)
    have p0B := p07.mono (Same.imm s7B)
    have pZB := pZ7.mono (Same.imm s7B)
    have hDB := s7B _ _ hD7
    have hZ1 : atI ys (-1) = some vZ := atI_endS hvZ
    refine ⟨_, rfl, D, ys, 0, v0, rfl, rfl, SqL.of hDB, atI_int (by decide) hv0, _, rfl, fun x2 d2 nx2 nd2 _ => ⟨HB, x2, d2, .ref x1, .contact ("zzz" : Str), rfl, upd_same, same_make nx2 nd2, nx2, pzB, by simp [Cond.size], by simp [Cond.depth], fun HC sBC pC => ⟨rfl, line_ge (by simp), fun l1 nl1 => ?_⟩⟩⟩
    have t1 := Same.new (o := .lst [v0, .ref x2]) nl1
    refine fun x3 d3 nx3 nd3 _ => ⟨_, x3, d3, l1, [v0, .ref x2], [.contact n0, .not (.contact ("zzz" : Str))], rfl, upd_same, same_make nx3 nd3, nx3, upd_same, .cons (p0B.mono (Same.imm (sBC.trans t1))) (.cons (pC.mono (Same.imm t1)) .nil), by simp, by simp [Cond.sizes, Cond.size], by simp [Cond.depths, Cond.depth], fun HE sCE qE1 => ⟨rfl, ?_⟩⟩
    have sBE := (sBC.trans t1).trans sCE
    refine fun x4 d4 nx4 nd4 _ => ⟨x4, d4, false, rfl, upd_same, fun HF hF bF => ⟨rfl, _, rfl, line_ge (by simp), fun l2 nl2 => ?_⟩⟩
    have t2 := mk_same nx4 nd4 bF
    have t3 := Same.new (o := .lst [.ref x4, .ref x1]) nl2
    have sBF := (sBE.trans t2).trans t3
    refine fun x5 d5 nx5 nd5 _ => ⟨_, x5, d5, l2, [.ref x4, .ref x1], [.fixed false, .contact ("zzz" : Str)], rfl, upd_same, same_make nx5 nd5, nx5, upd_same, .cons ((IsP.fixed hF).mono (Same.imm t3)) (.cons (gz sBF pzB) .nil), by simp, by simp [Cond.sizes, Cond.size], by simp [Cond.depths, Cond.depth], fun HG sFG qG2 => ⟨rfl, ?_⟩⟩
    have sEG := (t2.trans t3).trans sFG
    have sBG := sBE.trans sEG
    refine fun x6 d6 nx6 nd6 _ => ⟨x6, d6, true, rfl, upd_same, fun HI hI bI => ⟨rfl, _, rfl, line_ge (by simp), fun l3 nl3 => ?_⟩⟩
    have t4 := mk_same nx6 nd6 bI
    have t5 := Same.new (o := .lst [.ref x6, .ref x1]) nl3
    have sGI := t4.trans t5
    refine fun x7 d7 nx7 nd7 _ => ⟨_, x7, d7, l3, [.ref x6, .ref x1], [.fixed true, .contact ("zzz" : Str)], rfl, upd_same, same_make nx7 nd7, nx7, upd_same, .cons ((IsP.fixed hI).mono (Same.imm t5)) (.cons (gz (sBG.trans sGI) pzB) .nil), by simp, by simp [Cond.sizes, Cond.size], by simp [Cond.depths, Cond.depth], fun HJ sIJ qJ3 => ⟨rfl, line_ge (by simp), fun pw1 npw1 => ?_⟩⟩
    have sGJ := sGI.trans sIJ
    have t6 := Same.new (o := .lst [.ref x3, .ref x5, .ref x7]) npw1
    have hw1 := upd_same (H := HJ) (a := pw1) (o := .lst [.ref x3, .ref x5, .ref x7])
    have sBJ := (sBG.trans sGJ).trans t6
    have q1 := qE1.mono (Same.imm ((sEG.trans sGJ).trans t6))
    have q2 := qG2.mono (Same.imm (sGJ.trans t6))
    have q3 := qJ3.mono (Same.imm t6)
    generalize upd HJ pw1 (.lst [.ref x3, .ref x5, .ref x7]) = HL at hw1 sBJ q1 q2 q3 ⊢
    clear qE1 qG2 qJ3 t1 t2 t3 t4 t5 t6 sGI sIJ sGJ sEG sBG sBF sFG sBE sCE sBC pC hF hI bF bI
    refine ⟨_, rfl, 1, rfl, ⟨D, ys, -1, vZ, rfl, rfl, SqL.of (sBJ _ _ hDB), hZ1, _, rfl, line_ge (by simp), fun l4 nl4 => ?_⟩⟩
    have t1 := Same.new (o := .lst [vZ, .ref x1]) nl4
    refine fun x8 d8 nx8 nd8 _ => ⟨_, x8, d8, l4, [vZ, .ref x1], [.contact nZ, .contact ("zzz" : Str)], rfl, upd_same, same_make nx8 nd8, nx8, upd_same, .cons (pZB.mono (Same.imm (sBJ.trans t1))) (.cons (gz (sBJ.trans t1) pzB) .nil), by simp, by simp [Cond.sizes, Cond.size], by simp [Cond.depths, Cond.depth], fun HM sLM qM4 => ⟨rfl, ?_⟩⟩
    have sLM' := t1.trans sLM
    have sBM := sBJ.trans sLM'
    refine ⟨_, rfl, 1, rfl, D, ys, -1, vZ, rfl, rfl, SqL.of (sBM _ _ hDB), hZ1, fun x9 d9 nx9 nd9 _ => ⟨HM, x9, d9, vZ, .contact nZ, rfl, upd_same, same_make nx9 nd9, nx9, pZB.mono (Same.imm sBM), by simp [Cond.size], by simp [Cond.depth], fun HN sMN pN => ⟨rfl, _, rfl, line_ge (by simp), fun l5 nl5 => ?_⟩⟩⟩
    have t2 := Same.new (o := .lst [.ref x9, .ref x1]) nl5
    refine fun xa da nxa nda _ => ⟨_, xa, da, l5, [.ref x9, .ref x1], [.not (.contact nZ), .contact ("zzz" : Str)], rfl, upd_same, same_make nxa nda, nxa, upd_same, .cons (pN.mono (Same.imm t2)) (.cons (gz ((sBM.trans sMN).trans t2) pzB) .nil), by simp, by simp [Cond.sizes, Cond.size], by simp [Cond.depths, Cond.depth], fun HO sNO qO5 => ⟨rfl, line_ge (by simp), fun l6 nl6 => ?_⟩⟩
    have sMO := (sMN.trans t2).trans sNO
    have t3 := Same.new (o := .lst [.ref x8, .ref xa, .ref x1]) nl6
    have sLO := (sLM'.trans sMO).trans t3
    refine ⟨pw1, l6, _, _, rfl, rfl, sLO _ _ hw1, upd_same, line_ge (by simp), fun pw npw => ?_⟩
    have t4 := Same.new (o := .lst ([V.ref x3, .ref x5, .ref x7] ++ [V.ref x8, .ref xa, .ref x1])) npw
    have hpw := upd_same (H := upd HO l6 (.lst [.ref x8, .ref xa, .ref x1])) (a := pw) (o := .lst ([V.ref x3, .ref x5, .ref x7] ++ [V.ref x8, .ref xa, .ref x1]))
    have sLP := sLO.trans t4
    have sBP := sBJ.trans sLP
    have pW : IsPs cl (upd (upd HO l6 (.lst [.ref x8, .ref xa, .ref x1])) pw (.lst ([V.ref x3, .ref x5, .ref x7] ++ [V.ref x8, .ref xa, .ref x1]))) ([V.ref x3, .ref x5, .ref x7] ++ [V.ref x8, .ref xa, .ref x1])
        [.grp true [.contact n0, .not (.contact ("zzz" : Str))], .grp true [.fixed false, .contact ("zzz" : Str)], .grp false [.fixed true, .contact ("zzz" : Str)], .grp true [.contact nZ, .contact ("zzz" : Str)], .grp false [.not (.contact nZ), .contact ("zzz" : Str)], .contact ("zzz" : Str)] :=
      .cons (q1.mono (Same.imm sLP)) (.cons (q2.mono (Same.imm sLP)) (.cons (q3.mono (Same.imm sLP)) (.cons (qM4.mono (Same.imm ((sMO.trans t3).trans t4))) (.cons (qO5.mono (Same.imm (t3.trans t4))) (.cons (gz sBP pzB) .nil)))))
    generalize upd (upd HO l6 (.lst [.ref x8, .ref xa, .ref x1])) pw (.lst ([V.ref x3, .ref x5, .ref x7] ++ [V.ref x8, .ref xa, .ref x1])) = HP at hpw sBP pW ⊢
    clear t1 t2 t3 t4 sLM sLM' sBM sMN sNO sMO sLO sLP qM4 qO5 pN q1 q2 q3 hw1 sBJ
    generalize ([V.ref x3, .ref x5, .ref x7] ++ [V.ref x8, .ref xa, .ref x1]) = W at hpw pW ⊢
    have s7P := s7B.trans sBP
    have shP := sh7.keep s7P
    have sHP : ∀ {H'}, Same HP H' → SqL K H' a (script.map V.int) := fun s => Same.seq s (Same.seq s7P (seqL_k3 (Same.seq s14 hS1) (s45.trans s56) k67 nln ndn))
    have zno : ("zzz" : Str) ∉ l := fun h => by
      have := hnq _ h
      revert this
      unfold EndQ
      decide +kernel
    have bad : ∀ c ∈ [Cond.grp true [.contact n0, .not (.contact ("zzz" : Str))], .grp true [.fixed false, .contact ("zzz" : Str)], .grp false [.fixed true, .contact ("zzz" : Str)], .grp true [.contact nZ, .contact ("zzz" : Str)], .grp false [.not (.contact nZ), .contact ("zzz" : Str)], .contact ("zzz" : Str)], c.depth ≤ 20 ∧ c.size ≤ 60 ∧ ("zzz" : Str) ∈ c.contacts := by
      intro c hc
      simp only [List.mem_cons, List.not_mem_nil, or_false] at hc
      rcases hc with rfl | rfl | rfl | rfl | rfl | rfl
      all_goals exact ⟨by simp [Cond.depth, Cond.depths], by simp [Cond.size, Cond.sizes], by unfold Cond.contacts; simp only [Cond.gather, Cond.gathers]; exact addN_self _ _⟩
    refine ⟨_, rfl, by decide, by decide, for_range (lo := 0) (n := 6) (fun i σ H' => ∃ v12 : Option V, σ = [some (.ref a), some (.ref q), some (.int cell), some (.ref ph), some (.str due'), some (.ref x), some (.ref D), none, some (.int 2), some (.ref bt), some (.ref x1), some (.ref pw), v12, none, none, none, none, none] ∧ Same HP H') ⟨none, rfl, Same.refl _⟩ ?_ ?_⟩
    · rintro i σ HQ hi ⟨v12, rfl, sPQ⟩
      walk_at "rd"
      have wl := pW.length
      simp only [List.length_cons, List.length_nil] at wl
      refine ⟨a, script, 5, rfl, sHP sPQ, by omega, by decide, _, rfl, ?_⟩
      have h6 := nn (0 + (i : Nat) + cellC script 5) 6 (by decide)
      obtain ⟨v, hv, hva⟩ := atI_ex (xs := W) h6.1 (by omega)
      obtain ⟨j, hj⟩ := List.mem_iff_getElem?.mp hv
      obtain ⟨c, hc, pc⟩ := pW.at hj
      obtain ⟨g1, g2, g3⟩ := bad c (List.mem_of_getElem? hc)
      refine ⟨pw, W, _, v, rfl, rfl, SqL.of (sPQ _ _ hpw), hva, x, dx, tn, ln, dn, l, [(0, 0, 1)], v, c, rfl, shP.keep sPQ, pc.mono (Same.imm sPQ), g1, g2, (fun z => zno (z _ g3)), fun H' s' => ⟨scal_ss, ?_⟩⟩
      rw [decide_eq_true rfl]
      exact iteF (sPQ.trans s')
    rintro σ HQ ⟨v12, rfl, sPQ⟩
    walk_at "rd"
    refine ⟨a, script, 3, rfl, sHP sPQ, by omega, by decide, (by unfold CPow; decide), line_ge (by simp), fun pz npz => ?_⟩
    have t1 := Same.new (o := .lst [V.int 1, V.int 10, V.int (10 ^ Int.toNat 9)]) npz
    obtain ⟨z, hz, hz0⟩ : ∃ z : Int, atI [V.int 1, V.int 10, V.int (10 ^ Int.toNat 9)] (cellC script 4 % 3) = some (.int z) ∧ 0 < z := by
      have h3 := nn (cellC script 4) 3 (by decide)
      rcases (show cellC script 4 % 3 = 0 ∨ cellC script 4 % 3 = 1 ∨ cellC script 4 % 3 = 2 by omega) with e | e | e
      · exact ⟨1, by rw [e]; rfl, by decide⟩
      · exact ⟨10, by rw [e]; rfl, by decide⟩
      · exact ⟨10 ^ Int.toNat 9, by rw [e]; rfl, by decide⟩
    refine ⟨a, script, 4, rfl, sHP (sPQ.trans t1), by omega, by decide, _, rfl, pz, _, _, .int z, rfl, rfl, SqL.of upd_same, hz, _, rfl, _, rfl, hz0, ?_⟩
    have hz1 := nn (cellC script 3) z hz0
    obtain ⟨far, hfar, hfar3⟩ : ∃ far : Int, (2 : Int) + 1 + cellC script 3 % z = far ∧ 3 ≤ far := ⟨_, rfl, by omega⟩
    have sPR := sPQ.trans t1
    generalize upd HQ pz (.lst [V.int 1, V.int 10, V.int (10 ^ Int.toNat 9)]) = HR at sPR ⊢
    show tFor _ _ _ _ [some (.ref a), some (.ref q), some (.int cell), some (.ref ph), some (.str due'), some (.ref x), some (.ref D), none, some (.int 2), some (.ref bt), some (.ref x1), some (.ref pw), v12, some (.int ((2 : Int) + 1 + cellC script 3 % z)), none, none, none, none] _
    rw [hfar]
    refine ⟨_, rfl, _, rfl, _, _, rfl, rfl, _, rfl, _, rfl, _, rfl, line_ge (by simp), fun pl npl => ?_⟩
    have t2 := Same.new (o := .lst [V.int far, V.int (((2 : Nat) : Int) + 1), V.int (-1), V.int (-far)]) npl
    have hpl := upd_same (H := HR) (a := pl) (o := .lst [V.int far, V.int (((2 : Nat) : Int) + 1), V.int (-1), V.int (-far)])
    have sPS := sPR.trans t2
    generalize upd HR pl (.lst [V.int far, V.int (((2 : Nat) : Int) + 1), V.int (-1), V.int (-far)]) = HS at hpl sPS ⊢
    have badI : ∀ y ∈ [V.int far, V.int (((2 : Nat) : Int) + 1), V.int (-1), V.int (-far)], ∃ i : Int, y = .int i ∧ ¬ (0 ≤ i ∧ i < (([(0, 0, 1)] : List Sh.Nd).length : Int) + 2) := by
      intro y hy
      simp only [List.mem_cons, List.not_mem_nil, or_false] at hy
      rcases hy with rfl | rfl | rfl | rfl
      · exact ⟨_, rfl, by simp; omega⟩
      · exact ⟨_, rfl, by simp⟩
      · exact ⟨_, rfl, by simp⟩
      · exact ⟨_, rfl, by simp; omega⟩
    refine ⟨pl, rfl, ⟨_, SqL.of hpl⟩, for_it walk_list (fun i σ H' => ∃ v14 v15 v16 : Option V, σ = [some (.ref a), some (.ref q), some (.int cell), some (.ref ph), some (.str due'), some (.ref x), some (.ref D), none, some (.int 2), some (.ref bt), some (.ref x1), some (.ref pw), v12, some (.int far), v14, v15, v16, none] ∧ Same HS H') ⟨none, none, none, rfl, Same.refl _⟩ (fun i σ H' _ ⟨_, _, _, _, s⟩ => SqL.of (s _ _ hpl)) ?_ ?_⟩
    · rintro i y σ HT' HT hi ⟨v14, v15, v16, rfl, sST⟩ ⟨rfl, hy⟩
      obtain ⟨nd, rfl, hbad⟩ := badI y (List.mem_of_getElem? hy)
      walk_at "rd"
      refine ⟨_, rfl, by decide, by decide, for_range (lo := 0) (n := 24) (fun j σ H' => ∃ v15 v16 : Option V, σ = [some (.ref a), some (.ref q), some (.int cell), some (.ref ph), some (.str due'), some (.ref x), some (.ref D), none, some (.int 2), some (.ref bt), some (.ref x1), some (.ref pw), v12, some (.int far), some (.int nd), v15, v16, none] ∧ Same HS H') ⟨v15, v16, rfl, sST⟩ ?_ ?_⟩
      · rintro j σ HU hj ⟨v15, v16, rfl, sSU⟩
        walk_at "rd"
        refine ⟨line_ge (by simp), fun p2 np2 => ?_⟩
        have u2 := Same.new (o := .lst [V.int 2, V.int 0, V.int 1]) np2
        obtain ⟨ot, hot, o0, o3⟩ : ∃ ot : Int, atI [V.int 2, V.int 0, V.int 1] ((0 + (j : Int)) / 8) = some (.int ot) ∧ 0 ≤ ot ∧ ot < 3 := by
          rcases (show (0 + (j : Int)) / 8 = 0 ∨ (0 + (j : Int)) / 8 = 1 ∨ (0 + (j : Int)) / 8 = 2 by omega) with e | e | e
          · exact ⟨2, by rw [e]; rfl, by decide, by decide⟩
          · exact ⟨0, by rw [e]; rfl, by decide, by decide⟩
          · exact ⟨1, by rw [e]; rfl, by decide, by decide⟩
        have h8 := nn (0 + (j : Int) + cellC script 5) 8 (by decide)
        refine ⟨p2, _, _, .int ot, rfl, rfl, SqL.of upd_same, hot, a, script, 5, rfl, sHP (sPS.trans (sSU.trans u2)), by omega, by decide, _, rfl, x, dx, tn, ln, dn, l, [(0, 0, 1)], _, nd, ot, rfl, shP.keep (sPS.trans (sSU.trans u2)), w1, by omega, hn.nd, h8.1, h8.2, o0, by simp; omega, .inl ⟨hbad, fun H' s' => ⟨scal_ss, ?_⟩⟩⟩
        rw [decide_eq_true rfl]
        exact iteF ⟨_, _, ⟨rfl, rfl⟩, (sSU.trans u2).trans s'⟩
      · rintro σ HU ⟨v15, v16, rfl, sSU⟩
        exact ⟨_, _, _, rfl, sSU⟩
    rintro σ HT ⟨v14, v15, v16, rfl, sST⟩
    walk_at "rd"
    have shT := (shP.keep sPS).keep sST
    have sBT := sBP.trans (sPS.trans sST)
    have husT := (s7P.trans (sPS.trans sST)) _ _ hus7
    have hbtT := (sAB.trans sBT) _ _ hbt
    have hprT := (sAB.trans sBT) _ _ hprA
    have p0T := p0B.mono (Same.imm sBT)
    have hDT := sBT _ _ hDB
    refine ⟨_, rfl, x, cs, dx, _, rfl, shT.ob, rfl, lkSn (by decide +kernel), _, rfl, x, dx, tn, ln, dn, l, [(0, 0, 1)], 2, us, t0, rfl, shT, by decide, by decide, husT, eus, ?_⟩
    refine ⟨_, rfl, x, cs, dx, _, rfl, shT.ob, rfl, lkSn (by decide +kernel), _, rfl, x, dx, tn, ln, dn, l, [(0, 0, 1)], 2, rfl, shT, w1, hl60, hn.nd, by decide, (fun h => absurd h (by decide)), fun _ HU pd sTU npd hpd => ?_⟩
    have shU := shT.keep sTU
    refine ⟨_, rfl, x, cs, dx, _, rfl, shU.ob, rfl, lkSn (by decide +kernel), _, rfl, x, dx, tn, ln, dn, l, [(0, 0, 1)], 2, rfl, shU, w1, hl60, by decide, fun HV sUV => ?_⟩
    have shV := shU.keep sUV
    rw [hway]
    refine ⟨_, rfl, x, cs, dx, _, _, rfl, shV.ob, c_Sheet.cl, n_names, lkS1, line_ge (by simp), fun pt npt => ?_⟩
    have sVW := Same.new (o := .tup [.ref t0, .ref pd, .int way, .ref tn]) npt
    have sTW := (sTU.trans sUV).trans sVW
    have npp : pd ≠ pr := fun e => by rw [e, hprT] at npd; cases npd
    refine ⟨pt, bt, rfl, rfl, ⟨_, _, upd_same, sTW _ _ hbtT, rfl, fun i y z hy hz => ?_⟩, false, rfl, iteF ?_⟩
    · match i, hy, hz with
      | 0, hy, hz => cases hy; cases hz; exact .inl ⟨t0, rfl, rfl⟩
      | 1, hy, hz => cases hy; cases hz; exact .inr (.inr ⟨pd, pr, _, _, rfl, rfl, npp, sVW _ _ (sUV _ _ hpd), sTW _ _ hprT, rfl, dictB_eqd⟩)
      | 2, hy, hz => cases hy; cases hz; exact .inr (.inl ⟨_, rfl, rfl⟩)
      | 3, hy, hz => cases hy; cases hz; exact .inl ⟨tn, rfl, rfl⟩
      | i + 4, hy, hz => cases hy
    have shW := shV.keep sVW
    have p0W := p0T.mono (Same.imm sTW)
    have hDW := sTW _ _ hDT
    generalize upd HV pt (.tup [.ref t0, .ref pd, .int way, .ref tn]) = HW at shW p0W hDW ⊢
    obtain ⟨ro, N2, j2, w2, x2, S2, l2, _⟩ := opp_step hl60 w1 S1
    have h16 : 2 ^ l.length ≤ 16 := (by have : 2 ^ l.length ≤ 2 ^ 4 := Nat.pow_le_pow_right (by decide) (by omega); omega)
    simp only [List.length_singleton] at l2
    refine ⟨_, rfl, x, cs, dx, _, rfl, shW.ob, rfl, lkSn (by decide +kernel), _, rfl, x, dx, tn, ln, dn, l, [(0, 0, 1)], N2, 2, ro, rfl, shW, w1, hl60, by decide, j2, by omega, fun HX kX shX => ?_⟩
    have p0X := p0W.mono (shW.imm kX)
    have nDl : D ≠ ln := fun e => by obtain ⟨vs, h1, _⟩ := sh5.hl; rw [← e, nD] at h1; cases h1
    have hDX := kX _ _ hDW nDl (shW.n_dn hDW fun _ e => by cases e) (shW.n_dn hDW fun _ e => by cases e)
    refine ⟨_, rfl, by decide, by decide, for_range (lo := 0) (n := 8) (fun j σ H' => ∃ (v15 : Option V) (ns : List Sh.Nd), σ = [some (.ref a), some (.ref q), some (.int cell), some (.ref ph), some (.str due'), some (.ref x), some (.ref D), none, some (.int 2), some (.ref bt), some (.ref x1), some (.ref pw), v12, some (.int far), v14, v15, v16, some (.int (ro : Int))] ∧ K3 ln dn dn HX H' ∧ ShO cs H' x dx tn ln dn l ns ∧ Sh.Wf l.length ns ∧ ExtN N2 ns ∧ ns.length ≤ N2.length + 15 * j) ⟨v15, N2, rfl, K3.refl _, shX, w2, ExtN.refl _, by omega⟩ ?_ ?_⟩
    · rintro j σ HY hj ⟨v15, ns, rfl, kY, shY, wY, xY, lY⟩
      walk_at "rd"
      have lN : N2.length ≤ ns.length := by obtain ⟨mm, rfl⟩ := xY; rw [List.length_append]; omega
      have hro := S2.1
      have lN1 : 1 ≤ N2.length := by obtain ⟨mm, rfl⟩ := x2; rw [List.length_append]; simp
      refine ⟨x, dx, tn, ln, dn, l, ns, _, (ro : Int), 2, rfl, shY, wY, by omega, hn.nd, by omega, by omega, by decide, by omega, .inr ⟨by omega, by omega, by omega, fun H' ns' kk sh' w' x' l' => ⟨scal_ss, ?_⟩⟩⟩
      rw [decide_eq_true rfl]
      exact iteF ⟨K3.trans kY kk, ns', sh', w', xY.trans x', by omega⟩
    rintro σ HY ⟨v15, ns, rfl, kY, shY, wY, xY, lY⟩
    walk_at "rd"
    have lN : N2.length ≤ ns.length := by obtain ⟨mm, rfl⟩ := xY; rw [List.length_append]; omega
    have hro := S2.1
    have S1Y := S1.more w1 wY (x2.trans xY)
    have S2Y := S2.more w2 wY xY
    obtain ⟨r3, N3, j3, w3, x3', S3, l3, a3⟩ := opp_step hl60 wY S2Y
    obtain ⟨rfl, rfl⟩ := a3 2 ⟨S1Y.1, fun b => by rw [S1Y.2]; simp⟩
    refine ⟨_, rfl, x, cs, dx, _, rfl, shY.ob, rfl, lkSn (by decide +kernel), _, rfl, x, dx, tn, ln, dn, l, N3, N3, ro, 2, rfl, shY, wY, hl60, by omega, j3, by omega, fun HZ kZ shZ => ⟨scal_ii, ?_⟩⟩
    rw [decide_eq_true (show V.int ((2 : Nat) : Int) = V.int 2 from rfl)]
    have kXZ := K3.trans kY kZ
    have hDZ := kXZ _ _ hDX nDl (shX.n_dn hDX fun _ e => by cases e) (shX.n_dn hDX fun _ e => by cases e)
    refine iteT ⟨_, rfl, x, cs, dx, _, rfl, shZ.ob, rfl, lkSn (by decide +kernel), _, rfl, D, ys, 0, v0, rfl, rfl, SqL.of hDZ, atI_int (by decide) hv0, x, dx, tn, ln, dn, l, N3, N3, v0, .contact n0, 2, rfl, shZ, wY, hl60, p0X.mono (shX.imm kXZ), by rw [d0]; decide, by rw [z0]; decide, win n0 hn0, a1 _ wY (x2.trans xY), by omega, fun H' k' sh' => ⟨scal_ii, ?_⟩⟩
    rw [decide_eq_true (show V.int ((2 : Nat) : Int) = V.int 2 from rfl)]
    exact k _
end

--%% MI
end My
end
section
open PySem PySem.Spec L2 Ru
namespace My
def a_cl (K : PySem.W.Frag) : Cl := ⟨(He.ga K "Fixed"), (He.ga K "Contact"), (He.ga K "Turned"), (He.ga K "Series"), (He.ga K "Branch")⟩
def a_xc (K : PySem.W.Frag) : Xc := ⟨(He.ga K "LadderError"), (He.ga K "NoName"), (He.ga K "NoPart"), (He.ga K "NoEnd"), (He.ga K "NoLadder"), (He.ga K "NoText"), (He.ga K "NoRow"), (He.ga K "NoSheet"), (He.ga K "NoState"), (He.ga K "NoMatch"), (He.ga K "TooMany")⟩
def a_cs (K : PySem.W.Frag) : Addr := (He.ga K "Sheet")
theorem f_TExs {K : PySem.W.Frag} {h : Heap} {mg : Str → Option Value} (X : K.In h) (G : h.Ns mainGlobals mg) (c : Hd.Says Hh.facts Hh.defs K) : TExs K mg (a_xc K) :=
  ⟨(Hd.err_of X G (c.at_ 1 rfl)),
   (Hd.exc_of X G (c.at_ 2 rfl)),
   (Hd.exc_of X G (c.at_ 3 rfl)),
   (Hd.exc_of X G (c.at_ 4 rfl)),
   (Hd.exc_of X G (c.at_ 5 rfl)),
   (Hd.exc_of X G (c.at_ 6 rfl)),
   (Hd.exc_of X G (c.at_ 7 rfl)),
   (Hd.exc_of X G (c.at_ 8 rfl)),
   (Hd.exc_of X G (c.at_ 9 rfl)),
   (Hd.exc_of X G (c.at_ 10 rfl)),
   (Hd.exc_of X G (c.at_ 11 rfl)),
   (of_decide_eq_true (c.at_ 12 rfl))⟩
theorem f_TSheet {K : PySem.W.Frag} {h : Heap} {mg : Str → Option Value} (X : K.In h) (G : h.Ns mainGlobals mg) (c : Hd.Says Hh.facts Hh.defs K) : TSheet K mg (a_xc K) (a_cs K) :=
  ⟨(Hd.exc_of X G (c.at_ 11 rfl)),
   (Hd.cls_of X G (c.at_ 13 rfl)),
   (Hd.na_of (c.at_ 14 rfl)),
   (Hd.na_of (c.at_ 15 rfl)),
   (Hd.na_of (c.at_ 16 rfl)),
   (Hd.met_of (c.at_ 17 rfl) (c.def_ 1 rfl) (fun _ _ _ _ _ _ us hl => match us, hl with | [_, _], _ => rfl)),
   (Hd.met_of (c.at_ 18 rfl) (c.def_ 2 rfl) (fun _ _ _ _ _ _ us hl => match us, hl with | [_, _, _, _], _ => rfl)),
   (Hd.met_of (c.at_ 19 rfl) (c.def_ 3 rfl) (fun _ _ _ _ _ _ us hl => match us, hl with | [_, _, _], _ => rfl)),
   (Hd.met_of (c.at_ 20 rfl) (c.def_ 4 rfl) (fun _ _ _ _ _ _ us hl => match us, hl with | [_, _, _, _, _], _ => rfl)),
   (Hd.con_of X G (c.at_ 21 rfl)),
   (Hd.no_of X G (c.at_ 22 rfl)),
   (Hd.no_of X G (c.at_ 23 rfl))⟩
theorem f_TOpp {K : PySem.W.Frag} {h : Heap} {mg : Str → Option Value} (X : K.In h) (G : h.Ns mainGlobals mg) (c : Hd.Says Hh.facts Hh.defs K) : TOpp K mg (a_xc K) (a_cs K) :=
  ⟨(f_TSheet X G c),
   (Hd.met_of (c.at_ 24 rfl) (c.def_ 5 rfl) (fun _ _ _ _ _ _ us hl => match us, hl with | [_, _, _], _ => rfl))⟩
theorem f_TParts {K : PySem.W.Frag} {h : Heap} {mg : Str → Option Value} (X : K.In h) (G : h.Ns mainGlobals mg) (c : Hd.Says Hh.facts Hh.defs K) : TParts K mg (a_cl K) :=
  ⟨(Hd.cls_of X G (c.at_ 25 rfl)),
   (Hd.cls_of X G (c.at_ 26 rfl)),
   (Hd.cls_of X G (c.at_ 27 rfl)),
   (Hd.cls_of X G (c.at_ 28 rfl)),
   (Hd.cls_of X G (c.at_ 29 rfl)),
   (of_decide_eq_true (c.at_ 30 rfl)),
   (Hd.na_of (c.at_ 31 rfl)),
   (Hd.na_of (c.at_ 32 rfl)),
   (Hd.na_of (c.at_ 33 rfl)),
   (Hd.na_of (c.at_ 34 rfl)),
   (Hd.na_of (c.at_ 35 rfl)),
   (Hd.met_of (c.at_ 36 rfl) (c.def_ 6 rfl) (fun _ _ _ _ _ _ us hl => match us, hl with | [_], _ => rfl)),
   (Hd.met_of (c.at_ 37 rfl) (c.def_ 7 rfl) (fun _ _ _ _ _ _ us hl => match us, hl with | [_], _ => rfl)),
   (Hd.met_of (c.at_ 38 rfl) (c.def_ 8 rfl) (fun _ _ _ _ _ _ us hl => match us, hl with | [_], _ => rfl)),
   (Hd.met_of (c.at_ 39 rfl) (c.def_ 9 rfl) (fun _ _ _ _ _ _ us hl => match us, hl with | [_], _ => rfl)),
   (Hd.met_of (c.at_ 40 rfl) (c.def_ 10 rfl) (fun _ _ _ _ _ _ us hl => match us, hl with | [_], _ => rfl)),
   (Hd.met_of (c.at_ 41 rfl) (c.def_ 11 rfl) (fun _ _ _ _ _ _ us hl => match us, hl with | [_], _ => rfl)),
   (Hd.met_of (c.at_ 42 rfl) (c.def_ 12 rfl) (fun _ _ _ _ _ _ us hl => match us, hl with | [_], _ => rfl)),
   (Hd.met_of (c.at_ 43 rfl) (c.def_ 13 rfl) (fun _ _ _ _ _ _ us hl => match us, hl with | [_], _ => rfl)),
   (Hd.met_of (c.at_ 44 rfl) (c.def_ 14 rfl) (fun _ _ _ _ _ _ us hl => match us, hl with | [_], _ => rfl)),
   (Hd.met_of (c.at_ 45 rfl) (c.def_ 15 rfl) (fun _ _ _ _ _ _ us hl => match us, hl with | [_], _ => rfl)),
   (Hd.met_of (c.at_ 46 rfl) (c.def_ 16 rfl) (fun _ _ _ _ _ _ us hl => match us, hl with | [_], _ => rfl)),
   (Hd.met_of (c.at_ 47 rfl) (c.def_ 17 rfl) (fun _ _ _ _ _ _ us hl => match us, hl with | [_], _ => rfl)),
   (Hd.met_of (c.at_ 48 rfl) (c.def_ 18 rfl) (fun _ _ _ _ _ _ us hl => match us, hl with | [_], _ => rfl)),
   (Hd.met_of (c.at_ 49 rfl) (c.def_ 19 rfl) (fun _ _ _ _ _ _ us hl => match us, hl with | [_], _ => rfl)),
   (Hd.met_of (c.at_ 50 rfl) (c.def_ 20 rfl) (fun _ _ _ _ _ _ us hl => match us, hl with | [_], _ => rfl)),
   (Hd.met_of (c.at_ 51 rfl) (c.def_ 21 rfl) (fun _ _ _ _ _ _ us hl => match us, hl with | [_], _ => rfl)),
   (Hd.met_of (c.at_ 52 rfl) (c.def_ 22 rfl) (fun _ _ _ _ _ _ us hl => match us, hl with | [_], _ => rfl)),
   (Hd.met_of (c.at_ 53 rfl) (c.def_ 23 rfl) (fun _ _ _ _ _ _ us hl => match us, hl with | [_], _ => rfl)),
   (Hd.no_of X G (c.at_ 54 rfl)),
   (Hd.no_of X G (c.at_ 55 rfl)),
   (Hd.no_of X G (c.at_ 56 rfl)),
   (Hd.con_of X G (c.at_ 57 rfl)),
   (Hd.con_of X G (c.at_ 58 rfl))⟩
theorem f_TPaK {K : PySem.W.Frag} {h : Heap} {mg : Str → Option Value} (X : K.In h) (G : h.Ns mainGlobals mg) (c : Hd.Says Hh.facts Hh.defs K) : TPaK K mg (a_cl K) :=
  ⟨(f_TParts X G c),
   (Hd.one_of (c.at_ 59 rfl)),
   (Hd.one_of (c.at_ 60 rfl)),
   (Hd.one_of (c.at_ 61 rfl)),
   (Hd.one_of (c.at_ 62 rfl)),
   (Hd.one_of (c.at_ 63 rfl)),
   (Hd.one_of (c.at_ 64 rfl)),
   (Hd.one_of (c.at_ 65 rfl)),
   (Hd.one_of (c.at_ 66 rfl)),
   (Hd.one_of (c.at_ 67 rfl)),
   (Hd.one_of (c.at_ 68 rfl)),
   (Hd.one_of (c.at_ 69 rfl)),
   (Hd.one_of (c.at_ 70 rfl)),
   (Hd.one_of (c.at_ 71 rfl)),
   (Hd.one_of (c.at_ 72 rfl)),
   (Hd.one_of (c.at_ 73 rfl)),
   (Hd.one_of (c.at_ 74 rfl)),
   (Hd.one_of (c.at_ 75 rfl)),
   (Hd.one_of (c.at_ 76 rfl)),
   (Hd.one_of (c.at_ 77 rfl)),
   (Hd.one_of (c.at_ 78 rfl))⟩
theorem f_TDrawn {K : PySem.W.Frag} {h : Heap} {mg : Str → Option Value} (X : K.In h) (G : h.Ns mainGlobals mg) (c : Hd.Says Hh.facts Hh.defs K) : TDrawn K mg (a_cl K) (a_xc K) (a_cs K) :=
  ⟨(f_TOpp X G c),
   (f_TPaK X G c),
   (Hd.met_of (c.at_ 79 rfl) (c.def_ 24 rfl) (fun _ _ _ _ _ _ us hl => match us, hl with | [_, _], _ => rfl)),
   (Hd.no_of X G (c.at_ 80 rfl)),
   (Hd.no_of X G (c.at_ 81 rfl))⟩
theorem f_TNames {K : PySem.W.Frag} {h : Heap} {mg : Str → Option Value} (X : K.In h) (G : h.Ns mainGlobals mg) (c : Hd.Says Hh.facts Hh.defs K) : TNames K mg :=
  ⟨(Hd.def_of X G (c.at_ 82 rfl) (c.def_ 25 rfl) (fun _ _ _ _ _ _ us hl => match us, hl with | [_], _ => rfl)),
   (Hd.def_of X G (c.at_ 83 rfl) (c.def_ 26 rfl) (fun _ _ _ _ _ _ us hl => match us, hl with | [_], _ => rfl)),
   (Hd.con_of X G (c.at_ 84 rfl)),
   (Hd.con_of X G (c.at_ 85 rfl)),
   (Hd.tup_of X G (c.at_ 86 rfl)),
   (Hd.no_of X G (c.at_ 22 rfl))⟩
theorem f_TGather {K : PySem.W.Frag} {h : Heap} {mg : Str → Option Value} (X : K.In h) (G : h.Ns mainGlobals mg) (c : Hd.Says Hh.facts Hh.defs K) : TGather K mg (a_cl K) :=
  ⟨(f_TParts X G c),
   (Hd.met_of (c.at_ 87 rfl) (c.def_ 27 rfl) (fun _ _ _ _ _ _ us hl => match us, hl with | [_, _], _ => rfl)),
   (Hd.met_of (c.at_ 88 rfl) (c.def_ 28 rfl) (fun _ _ _ _ _ _ us hl => match us, hl with | [_, _], _ => rfl)),
   (Hd.met_of (c.at_ 89 rfl) (c.def_ 29 rfl) (fun _ _ _ _ _ _ us hl => match us, hl with | [_, _], _ => rfl)),
   (Hd.met_of (c.at_ 90 rfl) (c.def_ 30 rfl) (fun _ _ _ _ _ _ us hl => match us, hl with | [_, _], _ => rfl)),
   (Hd.met_of (c.at_ 91 rfl) (c.def_ 31 rfl) (fun _ _ _ _ _ _ us hl => match us, hl with | [_, _], _ => rfl)),
   (Hd.met_of (c.at_ 92 rfl) (c.def_ 32 rfl) (fun _ _ _ _ _ _ us hl => match us, hl with | [_], _ => rfl)),
   (Hd.met_of (c.at_ 93 rfl) (c.def_ 33 rfl) (fun _ _ _ _ _ _ us hl => match us, hl with | [_], _ => rfl)),
   (Hd.met_of (c.at_ 94 rfl) (c.def_ 34 rfl) (fun _ _ _ _ _ _ us hl => match us, hl with | [_], _ => rfl)),
   (Hd.met_of (c.at_ 95 rfl) (c.def_ 35 rfl) (fun _ _ _ _ _ _ us hl => match us, hl with | [_], _ => rfl)),
   (Hd.met_of (c.at_ 96 rfl) (c.def_ 36 rfl) (fun _ _ _ _ _ _ us hl => match us, hl with | [_], _ => rfl)),
   (Hd.no_of X G (c.at_ 56 rfl))⟩
theorem f_TSh {K : PySem.W.Frag} {h : Heap} {mg : Str → Option Value} (X : K.In h) (G : h.Ns mainGlobals mg) (c : Hd.Says Hh.facts Hh.defs K) : TSh K mg (a_cl K) (a_xc K) (a_cs K) :=
  ⟨(f_TDrawn X G c),
   (f_TNames X G c),
   (f_TGather X G c),
   (Hd.exc_of X G (c.at_ 2 rfl)),
   (Hd.exc_of X G (c.at_ 8 rfl)),
   (Hd.met_of (c.at_ 97 rfl) (c.def_ 37 rfl) (fun _ _ _ _ _ _ us hl => match us, hl with | [_, _], _ => rfl)),
   (Hd.met_of (c.at_ 98 rfl) (c.def_ 38 rfl) (fun _ _ _ _ _ _ us hl => match us, hl with | [_, _], _ => rfl)),
   (Hd.met_of (c.at_ 99 rfl) (c.def_ 39 rfl) (fun _ _ _ _ _ _ us hl => match us, hl with | [_, _], _ => rfl)),
   (Hd.con_of X G (c.at_ 100 rfl)),
   (Hd.no_of X G (c.at_ 22 rfl)),
   (Hd.no_of X G (c.at_ 101 rfl)),
   (Hd.no_of X G (c.at_ 56 rfl)),
   (Hd.no_of X G (c.at_ 80 rfl)),
   (Hd.no_of X G (c.at_ 81 rfl)),
   (Hd.no_of X G (c.at_ 102 rfl))⟩
theorem f_TShown {K : PySem.W.Frag} {h : Heap} {mg : Str → Option Value} (X : K.In h) (G : h.Ns mainGlobals mg) (c : Hd.Says Hh.facts Hh.defs K) : TShown K mg (a_cl K) (a_xc K) (a_cs K) :=
  ⟨(f_TSh X G c),
   (Hd.met_of (c.at_ 103 rfl) (c.def_ 40 rfl) (fun _ _ _ _ _ _ us hl => match us, hl with | [_, _], _ => rfl))⟩
theorem f_TRow {K : PySem.W.Frag} {h : Heap} {mg : Str → Option Value} (X : K.In h) (G : h.Ns mainGlobals mg) (c : Hd.Says Hh.facts Hh.defs K) : TRow K mg (a_cl K) (a_xc K) (a_cs K) :=
  ⟨(f_TSh X G c),
   (Hd.met_of (c.at_ 104 rfl) (c.def_ 41 rfl) (fun _ _ _ _ _ _ us hl => match us, hl with | [_, _], _ => rfl))⟩
theorem f_TWays {K : PySem.W.Frag} {h : Heap} {mg : Str → Option Value} (X : K.In h) (G : h.Ns mainGlobals mg) (c : Hd.Says Hh.facts Hh.defs K) : TWays K mg (a_cl K) (a_xc K) (a_cs K) :=
  ⟨(f_TSh X G c),
   (Hd.met_of (c.at_ 105 rfl) (c.def_ 42 rfl) (fun _ _ _ _ _ _ us hl => match us, hl with | [_, _, _], _ => rfl)),
   (Hd.met_of (c.at_ 106 rfl) (c.def_ 43 rfl) (fun _ _ _ _ _ _ us hl => match us, hl with | [_, _], _ => rfl))⟩
theorem f_TTwo {K : PySem.W.Frag} {h : Heap} {mg : Str → Option Value} (X : K.In h) (G : h.Ns mainGlobals mg) (c : Hd.Says Hh.facts Hh.defs K) : TTwo K mg (a_cl K) (a_xc K) (a_cs K) :=
  ⟨(f_TSh X G c),
   (Hd.met_of (c.at_ 107 rfl) (c.def_ 44 rfl) (fun _ _ _ _ _ _ us hl => match us, hl with | [_, _, _, _], _ => rfl)),
   (Hd.met_of (c.at_ 108 rfl) (c.def_ 45 rfl) (fun _ _ _ _ _ _ us hl => match us, hl with | [_, _, _], _ => rfl)),
   (Hd.met_of (c.at_ 109 rfl) (c.def_ 46 rfl) (fun _ _ _ _ _ _ us hl => match us, hl with | [_, _, _], _ => rfl)),
   (Hd.no_of X G (c.at_ 22 rfl))⟩
theorem f_TTurn {K : PySem.W.Frag} {h : Heap} {mg : Str → Option Value} (X : K.In h) (G : h.Ns mainGlobals mg) (c : Hd.Says Hh.facts Hh.defs K) : TTurn K mg (a_cl K) (a_xc K) (a_cs K) :=
  ⟨(f_TSh X G c),
   (Hd.met_of (c.at_ 110 rfl) (c.def_ 47 rfl) (fun _ _ _ _ _ _ us hl => match us, hl with | [_, _], _ => rfl)),
   (Hd.no_of X G (c.at_ 22 rfl))⟩
theorem f_TOwn {K : PySem.W.Frag} {h : Heap} {mg : Str → Option Value} (X : K.In h) (G : h.Ns mainGlobals mg) (c : Hd.Says Hh.facts Hh.defs K) : TOwn K mg (a_cl K) (a_xc K) (a_cs K) :=
  ⟨(f_TExs X G c),
   (f_TShown X G c),
   (f_TRow X G c),
   (f_TWays X G c),
   (f_TTwo X G c),
   (f_TTurn X G c),
   (Hd.def_of X G (c.at_ 111 rfl) (c.def_ 48 rfl) (fun _ _ _ _ _ _ us hl => match us, hl with | [_], _ => rfl)),
   (Hd.def_of X G (c.at_ 112 rfl) (c.def_ 49 rfl) (fun _ _ _ _ _ _ us hl => match us, hl with | [_], _ => rfl)),
   (Hd.def_of X G (c.at_ 113 rfl) (c.def_ 50 rfl) (fun _ _ _ _ _ _ us hl => match us, hl with | [_, _, _, _], _ => rfl)),
   (Hd.def_of X G (c.at_ 114 rfl) (c.def_ 51 rfl) (fun _ _ _ _ _ _ us hl => match us, hl with | [_, _], _ => rfl)),
   (Hd.no_of X G (c.at_ 80 rfl)),
   (Hd.no_of X G (c.at_ 115 rfl))⟩
theorem f_TSp {K : PySem.W.Frag} {h : Heap} {mg : Str → Option Value} (X : K.In h) (G : h.Ns mainGlobals mg) (c : Hd.Says Hh.facts Hh.defs K) : TSp K mg :=
  ⟨(Hd.def_of X G (c.at_ 116 rfl) (c.def_ 52 rfl) (fun _ _ _ _ _ _ us hl => match us, hl with | [_, _], _ => rfl)),
   (Hd.no_of X G (c.at_ 22 rfl)),
   (Hd.no_of X G (c.at_ 117 rfl))⟩
theorem f_TCells {K : PySem.W.Frag} {h : Heap} {mg : Str → Option Value} (X : K.In h) (G : h.Ns mainGlobals mg) (c : Hd.Says Hh.facts Hh.defs K) : TCells K mg :=
  ⟨(Hd.def_of X G (c.at_ 118 rfl) (c.def_ 53 rfl) (fun _ _ _ _ _ _ us hl => match us, hl with | [_, _], _ => rfl)),
   (Hd.def_of X G (c.at_ 119 rfl) (c.def_ 54 rfl) (fun _ _ _ _ _ _ us hl => match us, hl with | [_, _], _ => rfl)),
   (Hd.def_of X G (c.at_ 120 rfl) (c.def_ 55 rfl) (fun _ _ _ _ _ _ us hl => match us, hl with | [_, _], _ => rfl)),
   (Hd.def_of X G (c.at_ 121 rfl) (c.def_ 56 rfl) (fun _ _ _ _ _ _ us hl => match us, hl with | [_, _], _ => rfl)),
   (Hd.no_of X G (c.at_ 22 rfl)),
   (Hd.no_of X G (c.at_ 122 rfl))⟩
theorem f_TMake {K : PySem.W.Frag} {h : Heap} {mg : Str → Option Value} (X : K.In h) (G : h.Ns mainGlobals mg) (c : Hd.Says Hh.facts Hh.defs K) : TMake K mg (a_cl K) :=
  ⟨(f_TNames X G c),
   (f_TParts X G c),
   (Hd.met_of (c.at_ 123 rfl) (c.def_ 57 rfl) (fun _ _ _ _ _ _ us hl => match us, hl with | [_, _], _ => rfl)),
   (Hd.met_of (c.at_ 124 rfl) (c.def_ 58 rfl) (fun _ _ _ _ _ _ us hl => match us, hl with | [_, _], _ => rfl)),
   (Hd.met_of (c.at_ 125 rfl) (c.def_ 59 rfl) (fun _ _ _ _ _ _ us hl => match us, hl with | [_, _], _ => rfl)),
   (Hd.met_of (c.at_ 126 rfl) (c.def_ 60 rfl) (fun _ _ _ _ _ _ us hl => match us, hl with | [_, _], _ => rfl)),
   (Hd.met_of (c.at_ 127 rfl) (c.def_ 61 rfl) (fun _ _ _ _ _ _ us hl => match us, hl with | [_, _], _ => rfl)),
   (Hd.no_of X G (c.at_ 22 rfl)),
   (Hd.no_of X G (c.at_ 56 rfl))⟩
theorem f_Txt {K : PySem.W.Frag} {h : Heap} {mg : Str → Option Value} (X : K.In h) (G : h.Ns mainGlobals mg) (c : Hd.Says Hh.facts Hh.defs K) : Txt K mg (a_cl K) (a_xc K) (a_cs K) :=
  ⟨(Hd.law_of X G (c.at_ 0 rfl) (c.def_ 0 rfl) (fun _ _ _ _ _ _ _ => rfl)),
   (f_TOwn X G c),
   (f_TSp X G c),
   (f_TCells X G c),
   (f_TMake X G c),
   (Hd.no_of X G (c.at_ 122 rfl)),
   (Hd.no_of X G (c.at_ 117 rfl)),
   (Hd.no_of X G (c.at_ 56 rfl))⟩
theorem law_fin {P : Program} {w : World} {K : PySem.W.Frag} {mg : Str → Option Value} {h : Heap} {fa : Addr} (X : K.In h) (G : h.Ns mainGlobals mg) (hfa : mg "law" = some (.ref fa)) (c : Hd.Says Hh.facts Hh.defs K) :
    ∃ fd : FuncData, (∀ (s : Shared) (u : Value), BindsTo s fd ⟨[u], []⟩ [("_law_script", u)]) ∧ ∀ base : Heap, K.In base → base.Ns mainGlobals mg → FnOk P w K mg base CX0 90 fa fd ["_law_script"] (spLaw K) :=
  law_end (f_Txt X G c).law hfa fun base f fd F => ok_law (f_Txt X G c) F
end My
end
open PySem PySem.W PySem.Calls PyProof.Rows
set_option maxRecDepth 100000 in
set_option maxHeartbeats 0 in
theorem PySem.Challenge.cw_rungworks_k35_refused_holds : PySem.Challenge.rw_rungworks_k35_refused.Holds := by
  w_on; o_law
  refine HandSHeadRun.head_any (r := OpenLaw.row PySem.Challenge.rw_rungworks_k35_refused) (q := view (OpenLaw.row PySem.Challenge.rw_rungworks_k35_refused).prog [44]) (H := Hh.hk) (ob := Hh.ob) (M := 9000) (loose := Hh.names) (d := HandSHeadRun.topDef (OpenLaw.row PySem.Challenge.rw_rungworks_k35_refused).prog 44) (kwd := []) Hh.ob_eq
    (by kernel_rfl) (fun s => by kernel_rfl) Hh.run (by kernel_rfl) (by kernel_rfl) (by kernel_rfl) (by rfl) (by first | assumption | decide +kernel) (by decide +kernel) ⟨rfl, rfl, rfl, rfl, rfl, by decide +kernel⟩ ?hw ?hc
  case hw => w_witness2
  case hc =>
    exact Hd.walk (l := PySem.Challenge.rw_rungworks_k35_refused) (n := Hh.addrs) (k := 90) (p := "_law_script") (B := Hh.facts) (fn := Hh.defs) ⟨rfl, by decide, by decide⟩ rfl (by kernel_rfl) (by kernel_rfl) fun w mg fa h K X G hmg c => My.law_fin X G hmg c
#print axioms PySem.Challenge.cw_rungworks_k35_refused_holds

