import PyProof.Rows.All
import Wide.All
import OpenK.AllK
import Wide.FinOn
import HandS.Defaults
import HandS.Head0
import HandS.Head1
import HandS.Head2
import HandS.HeadEnd
import HandS.HeadHook1
import HandS.HeadHook2
import HandS.HeadNt
import HandS.ForMost
import HandS.Codes
import HandS.Style
import HandS.IsInst
import KE.KDictSum
import HandS.Conv
import HandS.ExcOwn
import HandS.ExcIs
import HandS.HotCalls
import HandS.Strs
import HandS.Zip
import HandS.Rev
import HandS.TryOnly
import PyProof.EnumMake
import PyProof.Draws
import KE.GoesMore
import KE.BitLaws
import HandS.Text
import HandS.Iter
import HandS.Walk
import PyProof.ListMulRoad
import PyProof.FactsAll.tuple_2
import HandS.Base
import HandS.Call
import HandS.List
import HandS.TupMul
import HandS.ListItems
import HandS.Flow
import HandS.SetKeys
import HandS.TupAny
import HandS.More
import PySem.Challenge.RW_rungworks_k52_rows_by_numbers
set_option Elab.async false
set_option linter.all false
set_option maxRecDepth 100000
set_option maxHeartbeats 2000000
/-! The head by one kernel run: every fact a law leans on is one Bool of the part of the heap that the module's names reach. -/
namespace Hd
open PySem PySem.Spec PyProof.Rows L2
/-! ## what is looked at -/
def tells (K : PySem.W.Frag) : List He5.DefA → List He5.FnW
  | [] => []
  | d :: r => He5.fnA K (d.at_ K) :: tells K r
def vals : List He5.DefA → List He5.FnW
  | [] => []
  | d :: r => d.val :: vals r
theorem tells_eq (K : PySem.W.Frag) : ∀ l, tells K l = l.map fun d => He5.fnA K (d.at_ K)
  | [] => rfl
  | d :: r => congrArg (He5.fnA K (d.at_ K) :: ·) (tells_eq K r)
theorem vals_eq : ∀ l, vals l = l.map He5.DefA.val
  | [] => rfl
  | d :: r => congrArg (d.val :: ·) (vals_eq r)
/-- not by List.map: of two maps over one list the kernel compares the functions first, over all of the heap -/
def seen (B : PySem.W.Frag → List Bool) (fn : List He5.DefA) (K : PySem.W.Frag) : He.AlD := ((B K).all (fun b => b) && fn.all fun d => d.ok K, tells K fn)
def want (fn : List He5.DefA) : He.AlD := (true, vals fn)
def Says (B : PySem.W.Frag → List Bool) (fn : List He5.DefA) (K : PySem.W.Frag) : Prop := seen B fn K = want fn
/-- n: the addresses that are looked at -/
def seenG (n : List Addr) (B : PySem.W.Frag → List Bool) (fn : List He5.DefA) (g : Addr → Option Obj) : He.AlD := seen B fn (He.frG g n)
def hook (n : List Addr) (B : PySem.W.Frag → List Bool) (fn : List He5.DefA) : PySem.W.Hook where
  α := He.AlD
  obs := fun s => seenG n B fn s.heap.get?
  val := fun _ => want fn
  says := fun _ h => ∃ K : PySem.W.Frag, K.In h ∧ Says B fn K
  of := fun _ _ e => ⟨_, He.frG_in, e⟩
  keeps := fun _ _ _ ⟨K, i, c⟩ k => ⟨K, PySem.W.Frag.In.keeps i k, c⟩
theorem seenG_eq {n : List Addr} {B : PySem.W.Frag → List Bool} {fn : List He5.DefA} {g : Addr → Option Obj} {s : Shared} (h : ∀ a, g a = s.heap.get? a) : seenG n B fn g = (hook n B fn).obs s := by
  obtain rfl : g = s.heap.get? := funext h
  rfl
section
variable {B : PySem.W.Frag → List Bool} {fn : List He5.DefA} {K : PySem.W.Frag}
theorem Says.at_ (c : Says B fn K) (i : Nat) {b : Bool} (h : (B K)[i]? = some b) : b = true :=
  List.all_eq_true.mp (Bool.and_eq_true_iff.mp (congrArg Prod.fst c)).1 b (List.mem_of_getElem? h)
theorem Says.def_ (c : Says B fn K) (i : Nat) {d : He5.DefA} (h : fn[i]? = some d) : ∃ fd, FunD K d.name d.qual d.params d.body d.scope (d.dvs K) (d.kws K) (d.at_ K) fd := by
  have e : (tells K fn)[i]? = (vals fn)[i]? := congrArg (fun l => l[i]?) (congrArg Prod.snd c)
  rw [tells_eq, vals_eq] at e
  rw [List.getElem?_map, List.getElem?_map, h] at e
  exact He5.DefA.funD (Option.some.inj e) (List.all_eq_true.mp (Bool.and_eq_true_iff.mp (congrArg Prod.fst c)).2 d (List.mem_of_getElem? h))
end
/-! ## facts as Bools -/
section
variable (K : PySem.W.Frag)
/-- the module's x is the object at a -/
def gB (x : Str) (a : Addr) : Bool := He.eqO (PySem.W.nsIn K mainGlobals x) (some (some (.ref a)))
def noB (x : Str) : Bool := He.eqO (PySem.W.nsIn K mainGlobals x) (some none)
def conB (x : Str) (v : V) : Bool := match PySem.W.nsIn K mainGlobals x with
  | some (some u) => He.relB v u
  | _ => false
def tupB (x : Str) (vs : List V) : Bool := match PySem.W.nsIn K mainGlobals x with
  | some (some (.ref a)) => (match K.lookup a with
    | some ⟨.type c, _, .seq its _, _⟩ => decide (c = "tuple") && (decide (its.size ≤ sizeLine) && He.relAll vs its.toList)
    | _ => false)
  | _ => false
def clsB (x : Str) (C : Addr) : Bool := gB K x C && (PySem.W.plainGet K C Str.empty && (PySem.W.hasDictIn K C && (PySem.W.plainOver K C && (He.eqO (PySem.W.findIn K (.ref C) "__setattr__") (some (some (.builtin "object.__setattr__"))) &&
  (He.eqO (PySem.W.findIn K (.ref C) "__class__") (some (some (.builtin "object.__class__"))) && (He.eqO (PySem.W.specialIn K (.builtin "object.__class__") "__get__") (some (some (.builtin "getset_descriptor.__get__"))) &&
  (decide (PySem.W.takesIn K (.builtin "object.__class__") = some true) && (decide (PySem.W.mroIn K C (.type "object") = some true) && (PySem.W.makesIn K C && PySem.W.keepIn K (.ref C))))))))))
def errB (x : Str) (C : Addr) : Bool := gB K x C && (decide (PySem.W.subIn K (.ref C) (.type "BaseException") = some true) && (decide (PySem.W.typeIn K (.ref C) = some (.type "type")) && PySem.W.hasDictIn K C))
def mroB (C L : Addr) : Bool := match PySem.W.clsIn K C with
  | some cd => decide (cd.mro = [.ref C, .ref L, .type "ValueError", .type "Exception", .type "BaseException", .type "object"])
  | none => false
def excB (x : Str) (C L : Addr) : Bool := gB K x C && (PySem.W.excIn K C [.type "ValueError", .type "Exception", .type "BaseException", .type "object"] "ValueError.__new__" && (PySem.W.keepIn K (.ref C) &&
  (He.eqO (PySem.W.findIn K (.ref C) "__getattribute__") (some (some (.builtin "BaseException.__getattribute__"))) && (He.eqO (PySem.W.findIn K (.ref C) "__getattr__") (some none) && (decide (PySem.W.subIn K (.ref C) (.type "BaseException") = some true) &&
  (PySem.W.hasDictIn K C && (He.eqO (PySem.W.findIn K (.ref C) "__class__") (some (some (.builtin "object.__class__"))) && (He.eqO (PySem.W.specialIn K (.builtin "object.__class__") "__get__") (some (some (.builtin "getset_descriptor.__get__"))) &&
  (decide (PySem.W.takesIn K (.builtin "object.__class__") = some true) && (decide (PySem.W.mroIn K C (.type "object") = some true) && (decide (PySem.W.typeIn K (.ref C) = some (.type "type")) && mroB K C L)))))))))))
def naB (C : Addr) (x : Str) : Bool := He.eqO (PySem.W.findIn K (.ref C) x) (some none)
def oneB (a b : Addr) (r : Bool) : Bool := decide (PySem.W.kitOne K (.ref a) (.ref b) = some r)
def metB (C : Addr) (m : Str) : Bool := He.eqO (PySem.W.findIn K (.ref C) m) (some (some (.ref (He.ma K C m)))) && (PySem.W.isFn K (.ref (He.ma K C m)) && PySem.W.keepIn K (.ref (He.ma K C m)))
def ca (C : Addr) (m : Str) : Addr := match PySem.W.findCls K (.ref C) (.type "type") m with
  | some (.val (.ref f)) => f
  | _ => 0
def cfnB (C : Addr) (m : Str) : Bool := PySem.W.readsIn K C (.type "type") && (He.eqO (PySem.W.specialIn K (.ref C) "__getattribute__") (some (some (.builtin "type.__getattribute__"))) && (match PySem.W.findCls K (.ref C) (.type "type") m with
  | some (.val (.ref _)) => true
  | _ => false))
end
theorem two {a b : Bool} (h : (a && b) = true) : a = true ∧ b = true := Bool.and_eq_true_iff.mp h
/-! ## defs -/
/-- a def as the text has it -/
def dA (at_ : PySem.W.Frag → Addr) (name qual : Str) (st : Stmt) : He5.DefA := ⟨at_, name, qual, defArgs st, defBody st, defScope st, [], []⟩
/-! ## the run in parts -/
noncomputable def endOf (r : PySem.W.OpenRow) (M : Nat) (w : World) (os : OsState) : Option PySem.W.SharedT := HandSHeadRun.endF (HandSHeadRun.stepQ (HandSHeadRun.denQ HandSHeadRun.tabQ) r.prog w) M r.prog w os
/-- some of the facts hold behind the top -/
def Part (r : PySem.W.OpenRow) (M : Nat) (n : List Addr) (B : PySem.W.Frag → List Bool) (fn : List He5.DefA) (w : World) : Prop := ∀ os : OsState, (endOf r M w os).map (fun s => seenG n B fn (HandSHeadRun.getT s)) = some (want fn)
theorem seen_app {B1 B2 : PySem.W.Frag → List Bool} {f1 f2 : List He5.DefA} {K : PySem.W.Frag} (h1 : seen B1 f1 K = want f1) (h2 : seen B2 f2 K = want f2) : seen (fun K => B1 K ++ B2 K) (f1 ++ f2) K = want (f1 ++ f2) := by
  obtain ⟨a1, b1⟩ := Prod.mk.inj h1
  obtain ⟨a2, b2⟩ := Prod.mk.inj h2
  obtain ⟨c1, d1⟩ := two a1
  obtain ⟨c2, d2⟩ := two a2
  refine Prod.ext ?_ ?_
  · show ((B1 K ++ B2 K).all (fun b => b) && (f1 ++ f2).all fun d => d.ok K) = true
    rw [List.all_append, List.all_append, c1, c2, d1, d2]
    rfl
  · show tells K (f1 ++ f2) = vals (f1 ++ f2)
    rw [tells_eq, vals_eq] at b1 b2 ⊢
    rw [List.map_append, List.map_append, b1, b2]
theorem Part.app {r : PySem.W.OpenRow} {M : Nat} {n : List Addr} {B1 B2 : PySem.W.Frag → List Bool} {f1 f2 : List He5.DefA} {w : World} (h1 : Part r M n B1 f1 w) (h2 : Part r M n B2 f2 w) : Part r M n (fun K => B1 K ++ B2 K) (f1 ++ f2) w := fun os => by
  have a := h1 os
  have b := h2 os
  cases e : endOf r M w os with
  | none =>
    rw [e] at a
    cases a
  | some s =>
    rw [e] at a b
    exact congrArg some (seen_app (Option.some.inj a) (Option.some.inj b))
theorem run_of {r : PySem.W.OpenRow} {q : Program} {M : Nat} {n : List Addr} {B : PySem.W.Frag → List Bool} {fn : List He5.DefA} {loose : List Str} {w : World} (h0 : HandSHeadRun.RunEq r q PySem.W.Hook.none (fun _ => ()) M loose w) (h1 : Part r M n B fn w) :
    HandSHeadRun.RunEq r q (hook n B fn) (fun s => seenG n B fn (HandSHeadRun.getT s)) M loose w := fun os => by
  have a := h0 os
  have b := h1 os
  unfold endOf at b
  cases e : HandSHeadRun.endF (HandSHeadRun.stepQ (HandSHeadRun.denQ HandSHeadRun.tabQ) r.prog w) M r.prog w os with
  | none =>
    rw [e] at a
    cases a
  | some s =>
    rw [e] at a b
    have a1 := Option.some.inj a
    have b1 := Option.some.inj b
    obtain ⟨a2, a3⟩ := Prod.mk.inj a1
    obtain ⟨a4, _⟩ := Prod.mk.inj a3
    exact congrArg some (Prod.ext a2 (Prod.ext a4 b1))
end Hd

set_option Elab.async false
set_option linter.all false
set_option maxRecDepth 100000
set_option maxHeartbeats 2000000
section
open PySem PySem.Spec L2
namespace Hh
def top (i : Nat) : Stmt := PySem.Challenge.pw_rungworks_k52_rows_by_numbers.main.body.getD i (.Pass ⟨0, 0, 0, 0⟩)
abbrev sSIGNS : Str := "abcdefghijklmnopqrstuvwxyz"
def keptL : List Str := ["on", "off", "and", "or", "not", "set", "reset", "timer", "counter", "inputs", "outputs"]
def keptV : List V := keptL.map V.str
def facts0 (K : PySem.W.Frag) : List Bool := [Hd.gB K "law" (He.ga K "law"),
  Hd.gB K "is_word" (He.ga K "is_word"),
  Hd.gB K "is_name" (He.ga K "is_name"),
  Hd.conB K "SIGNS" (.str sSIGNS),
  Hd.conB K "MOST_SIGNS" (.int 8),
  Hd.tupB K "KEPT" keptV,
  Hd.noB K "len",
  Hd.clsB K "Coil" (He.ga K "Coil"),
  Hd.clsB K "Unlatch" (He.ga K "Unlatch"),
  Hd.naB K (He.ga K "Coil") "name",
  Hd.naB K (He.ga K "Unlatch") "name",
  Hd.metB K (He.ga K "Coil") "__init__",
  Hd.noB K "isinstance",
  Hd.oneB K (He.ga K "Coil") (He.ga K "Unlatch") false,
  Hd.oneB K (He.ga K "Unlatch") (He.ga K "Unlatch") true,
  Hd.errB K "LadderError" (He.ga K "LadderError"),
  Hd.excB K "NoName" (He.ga K "NoName") (He.ga K "LadderError"),
  Hd.excB K "NoPart" (He.ga K "NoPart") (He.ga K "LadderError"),
  Hd.excB K "NoEnd" (He.ga K "NoEnd") (He.ga K "LadderError"),
  Hd.excB K "NoLadder" (He.ga K "NoLadder") (He.ga K "LadderError"),
  Hd.excB K "NoText" (He.ga K "NoText") (He.ga K "LadderError"),
  Hd.excB K "NoRow" (He.ga K "NoRow") (He.ga K "LadderError"),
  Hd.excB K "NoSheet" (He.ga K "NoSheet") (He.ga K "LadderError"),
  Hd.excB K "NoState" (He.ga K "NoState") (He.ga K "LadderError"),
  Hd.excB K "NoMatch" (He.ga K "NoMatch") (He.ga K "LadderError"),
  Hd.excB K "TooMany" (He.ga K "TooMany") (He.ga K "LadderError"),
  decide ([(He.ga K "LadderError"), (He.ga K "NoName"), (He.ga K "NoPart"), (He.ga K "NoEnd"), (He.ga K "NoLadder"), (He.ga K "NoText"), (He.ga K "NoRow"), (He.ga K "NoSheet"), (He.ga K "NoState"), (He.ga K "NoMatch"), (He.ga K "TooMany")].Nodup),
  Hd.clsB K "Rung" (He.ga K "Rung"),
  Hd.clsB K "Ladder" (He.ga K "Ladder"),
  Hd.clsB K "Counting" (He.ga K "Counting"),
  Hd.oneB K (He.ga K "Coil") (He.ga K "Counting") false,
  Hd.oneB K (He.ga K "Unlatch") (He.ga K "Counting") false,
  Hd.naB K (He.ga K "Rung") "part",
  Hd.naB K (He.ga K "Rung") "end",
  Hd.naB K (He.ga K "Ladder") "inputs",
  Hd.naB K (He.ga K "Ladder") "outputs",
  Hd.naB K (He.ga K "Ladder") "rungs",
  Hd.gB K "need_between" (He.ga K "need_between"),
  Hd.gB K "need_single" (He.ga K "need_single"),
  Hd.gB K "need_own" (He.ga K "need_own"),
  Hd.metB K (He.ga K "Rung") "__init__",
  Hd.metB K (He.ga K "Ladder") "__init__",
  Hd.metB K (He.ga K "Ladder") "written_names",
  Hd.noB K "set",
  Hd.noB K "tuple",
  Hd.noB K "any",
  Hd.conB K "MOST_NAMES" (.int 6),
  Hd.conB K "MOST_RUNGS" (.int 30),
  Hd.conB K "MOST_WRITTEN" (.int 20),
  Hd.gB K "rows" (He.ga K "rows"),
  Hd.gB K "row_of" (He.ga K "row_of"),
  Hd.gB K "row_number" (He.ga K "row_number"),
  Hd.noB K "range",
  Hd.noB K "int",
  Hd.noB K "enumerate",
  Hd.gB K "_law_cell_at" (He.ga K "_law_cell_at"),
  Hd.gB K "_law_mixed" (He.ga K "_law_mixed"),
  Hd.gB K "_law_kind" (He.ga K "_law_kind"),
  Hd.noB K "ValueError",
  Hd.clsB K "Fixed" (He.ga K "Fixed"),
  Hd.naB K (He.ga K "Fixed") "value",
  Hd.metB K (He.ga K "Fixed") "__init__",
  Hd.gB K "_law_far_at" (He.ga K "_law_far_at"),
  Hd.gB K "_law_whole" (He.ga K "_law_whole"),
  Hd.gB K "_law_refused" (He.ga K "_law_refused"),
  Hd.gB K "_law_row_right" (He.ga K "_law_row_right"),
  Hd.gB K "_law_by_turns" (He.ga K "_law_by_turns"),
  Hd.noB K "bool",
  Hd.noB K "abs"]
def facts : PySem.W.Frag → List Bool := facts0
def defs0 : List He5.DefA := [Hd.dA (fun K => He.ga K "law") "law" "law" (top 50),
  Hd.dA (fun K => He.ga K "is_word") "is_word" "is_word" (top 17),
  Hd.dA (fun K => He.ga K "is_name") "is_name" "is_name" (top 18),
  Hd.dA (fun K => He.ma K (He.ga K "Coil") "__init__") "__init__" "End.__init__" (inClass (top 21) 0),
  Hd.dA (fun K => He.ga K "need_between") "need_between" "need_between" (top 34),
  Hd.dA (fun K => He.ga K "need_single") "need_single" "need_single" (top 35),
  Hd.dA (fun K => He.ga K "need_own") "need_own" "need_own" (top 36),
  Hd.dA (fun K => He.ma K (He.ga K "Rung") "__init__") "__init__" "Rung.__init__" (inClass (top 33) 0),
  Hd.dA (fun K => He.ma K (He.ga K "Ladder") "__init__") "__init__" "Ladder.__init__" (inClass (top 37) 0),
  Hd.dA (fun K => He.ma K (He.ga K "Ladder") "written_names") "written_names" "Ladder.written_names" (inClass (top 37) 1),
  Hd.dA (fun K => He.ga K "rows") "rows" "rows" (top 26),
  Hd.dA (fun K => He.ga K "row_of") "row_of" "row_of" (top 27),
  Hd.dA (fun K => He.ga K "row_number") "row_number" "row_number" (top 28),
  Hd.dA (fun K => He.ga K "_law_cell_at") "_law_cell_at" "_law_cell_at" (top 42),
  Hd.dA (fun K => He.ga K "_law_mixed") "_law_mixed" "_law_mixed" (top 44),
  Hd.dA (fun K => He.ga K "_law_kind") "_law_kind" "_law_kind" (top 46),
  Hd.dA (fun K => He.ma K (He.ga K "Fixed") "__init__") "__init__" "Fixed.__init__" (inClass (top 40) 0),
  Hd.dA (fun K => He.ga K "_law_far_at") "_law_far_at" "_law_far_at" (top 43),
  Hd.dA (fun K => He.ga K "_law_whole") "_law_whole" "_law_whole" (top 45),
  Hd.dA (fun K => He.ga K "_law_refused") "_law_refused" "_law_refused" (top 47),
  Hd.dA (fun K => He.ga K "_law_row_right") "_law_row_right" "_law_row_right" (top 48),
  Hd.dA (fun K => He.ga K "_law_by_turns") "_law_by_turns" "_law_by_turns" (top 49)]
def defs : List He5.DefA := defs0
def names0 : List PySem.Str := ["_wall", "LadderError", "NoName", "NoPart", "NoEnd", "NoLadder", "NoText", "NoRow", "NoSheet", "NoState", "NoMatch", "TooMany", "SIGNS", "MOST_SIGNS", "KEPT", "is_word"]
def names1 : List PySem.Str := ["is_name", "MOST_COUNT", "End", "Coil", "Unlatch", "Counting", "rows", "row_of", "row_number", "MOST_NAMES", "MOST_RUNGS", "MOST_WRITTEN", "Rung", "need_between", "need_single", "need_own"]
def names2 : List PySem.Str := ["Ladder", "Part", "Fixed", "_law_cell_at", "_law_far_at", "_law_mixed", "_law_whole", "_law_kind", "_law_refused", "_law_row_right", "_law_by_turns"]
def names : List PySem.Str := names0 ++ names1 ++ names2
def addrs0 : List Nat := [nat_lit 3, nat_lit 6, nat_lit 4, nat_lit 21, nat_lit 31, nat_lit 44, nat_lit 56, nat_lit 68, nat_lit 80, nat_lit 92, nat_lit 104, nat_lit 116, nat_lit 128, nat_lit 140, nat_lit 152, nat_lit 155, nat_lit 162, nat_lit 169, nat_lit 207, nat_lit 221, nat_lit 240, nat_lit 266, nat_lit 275, nat_lit 280, nat_lit 287, nat_lit 304, nat_lit 315, nat_lit 322, nat_lit 329, nat_lit 351, nat_lit 428, nat_lit 470, nat_lit 479, nat_lit 486, nat_lit 493, nat_lit 500, nat_lit 507, nat_lit 514, nat_lit 519, nat_lit 524]
def addrs1 : List Nat := [nat_lit 529, nat_lit 0, nat_lit 20, nat_lit 30, nat_lit 43, nat_lit 55, nat_lit 67, nat_lit 79, nat_lit 91, nat_lit 103, nat_lit 115, nat_lit 127, nat_lit 139, nat_lit 151, nat_lit 161, nat_lit 168, nat_lit 206, nat_lit 220, nat_lit 239, nat_lit 265, nat_lit 274, nat_lit 279, nat_lit 286, nat_lit 303, nat_lit 314, nat_lit 321, nat_lit 328, nat_lit 350, nat_lit 427, nat_lit 469, nat_lit 478, nat_lit 485, nat_lit 492, nat_lit 499, nat_lit 506, nat_lit 513, nat_lit 518, nat_lit 523, nat_lit 528, nat_lit 15]
def addrs2 : List Nat := [nat_lit 16, nat_lit 17, nat_lit 18, nat_lit 19, nat_lit 29, nat_lit 32, nat_lit 42, nat_lit 54, nat_lit 66, nat_lit 78, nat_lit 90, nat_lit 102, nat_lit 114, nat_lit 126, nat_lit 138, nat_lit 150, nat_lit 156, nat_lit 157, nat_lit 158, nat_lit 159, nat_lit 160, nat_lit 163, nat_lit 164, nat_lit 165, nat_lit 166, nat_lit 167, nat_lit 183, nat_lit 190, nat_lit 197, nat_lit 204, nat_lit 205, nat_lit 208, nat_lit 209, nat_lit 219, nat_lit 237, nat_lit 238, nat_lit 256, nat_lit 263, nat_lit 264, nat_lit 269]
def addrs3 : List Nat := [nat_lit 270, nat_lit 271, nat_lit 272, nat_lit 273, nat_lit 276, nat_lit 277, nat_lit 278, nat_lit 281, nat_lit 282, nat_lit 283, nat_lit 284, nat_lit 285, nat_lit 301, nat_lit 302, nat_lit 305, nat_lit 306, nat_lit 309, nat_lit 310, nat_lit 311, nat_lit 312, nat_lit 313, nat_lit 316, nat_lit 317, nat_lit 318, nat_lit 319, nat_lit 320, nat_lit 323, nat_lit 324, nat_lit 325, nat_lit 326, nat_lit 327, nat_lit 341, nat_lit 348, nat_lit 349, nat_lit 352, nat_lit 353, nat_lit 369, nat_lit 376, nat_lit 383, nat_lit 390]
def addrs4 : List Nat := [nat_lit 397, nat_lit 404, nat_lit 411, nat_lit 418, nat_lit 425, nat_lit 426, nat_lit 429, nat_lit 430, nat_lit 446, nat_lit 453, nat_lit 460, nat_lit 467, nat_lit 468, nat_lit 473, nat_lit 474, nat_lit 475, nat_lit 476, nat_lit 477, nat_lit 480, nat_lit 481, nat_lit 482, nat_lit 483, nat_lit 484, nat_lit 487, nat_lit 488, nat_lit 489, nat_lit 490, nat_lit 491, nat_lit 494, nat_lit 495, nat_lit 496, nat_lit 497, nat_lit 498, nat_lit 501, nat_lit 502, nat_lit 503, nat_lit 504, nat_lit 505, nat_lit 508, nat_lit 509]
def addrs5 : List Nat := [nat_lit 510, nat_lit 511, nat_lit 512, nat_lit 515, nat_lit 516, nat_lit 517, nat_lit 520, nat_lit 521, nat_lit 522, nat_lit 525, nat_lit 526, nat_lit 527, nat_lit 182, nat_lit 189, nat_lit 196, nat_lit 203, nat_lit 236, nat_lit 255, nat_lit 262, nat_lit 300, nat_lit 340, nat_lit 347, nat_lit 368, nat_lit 375, nat_lit 382, nat_lit 389, nat_lit 396, nat_lit 403, nat_lit 410, nat_lit 417, nat_lit 424, nat_lit 445, nat_lit 452, nat_lit 459, nat_lit 466, nat_lit 177, nat_lit 178, nat_lit 179, nat_lit 180, nat_lit 181]
def addrs6 : List Nat := [nat_lit 184, nat_lit 185, nat_lit 186, nat_lit 187, nat_lit 188, nat_lit 191, nat_lit 192, nat_lit 193, nat_lit 194, nat_lit 195, nat_lit 198, nat_lit 199, nat_lit 200, nat_lit 201, nat_lit 202, nat_lit 231, nat_lit 232, nat_lit 233, nat_lit 234, nat_lit 235, nat_lit 250, nat_lit 251, nat_lit 252, nat_lit 253, nat_lit 254, nat_lit 257, nat_lit 258, nat_lit 259, nat_lit 260, nat_lit 261, nat_lit 295, nat_lit 296, nat_lit 297, nat_lit 298, nat_lit 299, nat_lit 337, nat_lit 338, nat_lit 339, nat_lit 342, nat_lit 343]
def addrs7 : List Nat := [nat_lit 344, nat_lit 345, nat_lit 346, nat_lit 363, nat_lit 364, nat_lit 365, nat_lit 366, nat_lit 367, nat_lit 370, nat_lit 371, nat_lit 372, nat_lit 373, nat_lit 374, nat_lit 377, nat_lit 378, nat_lit 379, nat_lit 380, nat_lit 381, nat_lit 384, nat_lit 385, nat_lit 386, nat_lit 387, nat_lit 388, nat_lit 391, nat_lit 392, nat_lit 393, nat_lit 394, nat_lit 395, nat_lit 398, nat_lit 399, nat_lit 400, nat_lit 401, nat_lit 402, nat_lit 405, nat_lit 406, nat_lit 407, nat_lit 408, nat_lit 409, nat_lit 412, nat_lit 413]
def addrs8 : List Nat := [nat_lit 414, nat_lit 415, nat_lit 416, nat_lit 419, nat_lit 420, nat_lit 421, nat_lit 422, nat_lit 423, nat_lit 440, nat_lit 441, nat_lit 442, nat_lit 443, nat_lit 444, nat_lit 447, nat_lit 448, nat_lit 449, nat_lit 450, nat_lit 451, nat_lit 454, nat_lit 455, nat_lit 456, nat_lit 457, nat_lit 458, nat_lit 461, nat_lit 462, nat_lit 463, nat_lit 464, nat_lit 465, nat_lit 2]
/-- the objects that the module's names reach -/
def addrs : List Nat := addrs0 ++ addrs1 ++ addrs2 ++ addrs3 ++ addrs4 ++ addrs5 ++ addrs6 ++ addrs7 ++ addrs8
abbrev hk : PySem.W.Hook := Hd.hook addrs facts defs
def ob (s : PySem.W.SharedT) : He.AlD := Hd.seenG addrs facts defs (HandSHeadRun.getT s)
theorem ob_eq (s : PySem.W.SharedT) : ob s = hk.obs s.abs := Hd.seenG_eq (HandSHeadRun.getT_eq s)
abbrev row : PySem.W.OpenRow := PySem.W.OpenLaw.row PySem.Challenge.rw_rungworks_k52_rows_by_numbers
set_option maxHeartbeats 0 in
theorem run_looks (w : World) : HandSHeadRun.RunEq row (PySem.W.view row.prog [50]) PySem.W.Hook.none (fun _ => ()) 9000 names w := by
  intro os
  kernel_rfl
set_option maxHeartbeats 0 in
theorem run_0 (w : World) : Hd.Part row 9000 addrs facts0 defs0 w := by
  intro os
  kernel_rfl
theorem run (w : World) : HandSHeadRun.RunEq row (PySem.W.view row.prog [50]) hk ob 9000 names w :=
  Hd.run_of (run_looks w) (run_0 w)
end Hh
end

set_option Elab.async false
set_option linter.all false
set_option maxRecDepth 100000
set_option maxHeartbeats 2000000
namespace Ru
open PySem PySem.Spec PyProof.Rows L2

/-! ## a def of the module as a caller sees it -/
/-- the def called x is the module's, with body st -/
structure DefAt (K : PySem.W.Frag) (mg : Str → Option Value) (x : Str) (st : Stmt) (ps : List Str) : Prop where
  ex : ∃ f fd, mg x = some (.ref f) ∧ Fun K x x st f fd ∧ Binds K fd ps []
/-- the def called x keeps the promise sp -/
structure FnAt (P : Program) (w : World) (K : PySem.W.Frag) (mg : Str → Option Value) (base : Heap) (cx : CXT) (x : Str) (k : Nat) (ps : List Str) (sp : Sp) : Prop where
  ex : ∃ f fd, mg x = some (.ref f) ∧ PySem.W.keepIn K (.ref f) = true ∧ Binds K fd ps [] ∧ FnOk P w K mg base cx k f fd ps sp
theorem FnAt.mono {P : Program} {w : World} {K : PySem.W.Frag} {mg : Str → Option Value} {base : Heap} {cx : CXT} {x : Str} {j k : Nat} {ps : List Str} {sp : Sp} (F : FnAt P w K mg base cx x j ps sp) (h : j ≤ k) : FnAt P w K mg base cx x k ps sp := by
  obtain ⟨f, fd, h1, h2, h3, h4⟩ := F.ex
  exact ⟨f, fd, h1, h2, h3, h4.mono h⟩
theorem FnAt.imp {P : Program} {w : World} {K : PySem.W.Frag} {mg : Str → Option Value} {base : Heap} {cx : CXT} {x : Str} {k : Nat} {ps : List Str} {sp sp' : Sp} (F : FnAt P w K mg base cx x k ps sp) (h : ∀ vs H Q E, sp' vs H Q E → sp vs H Q E) : FnAt P w K mg base cx x k ps sp' := by
  obtain ⟨f, fd, h1, h2, h3, h4⟩ := F.ex
  exact ⟨f, fd, h1, h2, h3, h4.imp h⟩
section
variable {P : Program} {w : World} {K : PySem.W.Frag} {mg : Str → Option Value} {base : Heap}
theorem fnAt_ok {x : Str} {st : Stmt} {N ps : List Str} {k : Nat} {sp : Sp} (D : DefAt K mg x st ps) (S : FnScope N ps (defScope st)) (len : ∀ vs H Q E, sp vs H Q E → vs.length = ps.length)
    (hbody : ∀ (f : Addr) (cdv : Value) (A : Around) (outer : List Env) (s : Shared) (H : Hp) (vs : List V) (Q : VK) (E : XK), Room k (A.deeper (envOfC x (defScope st) s.heap.objs.size f cdv)) → sp vs H Q E →
      ∃ t, PSs (cxOf CX0 P w K mg base N x (defScope st) f cdv A outer s H E).nox (defBody st) t ∧ t { nx := fun _ H' => Q .non H', rt := Q } (start N vs) H) : FnAt P w K mg base CX0 x (k + 1) ps sp := by
  obtain ⟨f, fd, h1, h2, h3⟩ := D.ex
  exact ⟨f, fd, h1, h2.kp, h3, h2.ok S len (hbody f)⟩
theorem defAt_mk {h : Heap} {x : Str} {st : Stmt} {ps : List Str} {f : Addr} {oc : Value} {od an : Option Addr} {osl : Array (Option Value)} {kV doc pm cdv ct : Value} (X : K.In h) (G : h.Ns mainGlobals mg)
    (a : PySem.W.nsIn K mainGlobals x = some (some (.ref f))) (l : K.lookup f = some ⟨oc, od, .func (PySem.W.fnOf x x (defArgs st) (defBody st) (defScope st) .none kV doc pm an cdv ct), osl⟩)
    (c : PySem.W.codeIn K cdv x = true) (k : PySem.W.keepIn K (.ref f) = true)
    (b : ∀ us : List Value, us.length = ps.length → bindArgs (PySem.W.fnOf x x (defArgs st) (defBody st) (defScope st) .none kV doc pm an cdv ct) ⟨us, []⟩ = pure (ps.zip us)) : DefAt K mg x st ps :=
  ⟨f, _, PySem.W.mg_of X G a, fun_mk l c k, .all b⟩
end
section
variable {X : Cx} {cx : CXT} {j k : Nat} {ps : List Str} {sp : Sp} {E : XK} {x : Str} {p pos : Pos} {e : Expr} {es : List Expr} {t : TA}
theorem pe_callF (F : FnAt X.prog X.w X.K X.mg X.base cx x k ps sp) (hr : Room j X.A) (hx : Passes cx X E) (ha : PA X (e :: es) t) (hj : k ≤ j := by decide) (hg : Gl X x := by rfl)
    (hdb : (x == ("__debug__" : Str)) = false := by decide) (he : starEach (e :: es) X.env = (false, eval e X.env) :: starEach es X.env := by rfl) (hpl : (backTo pos (starEach es X.env)).any (·.1) = false := by rfl) :
    PE X (.Call (.Name x p) (e :: es) [] pos) (tCall sp [] E t) := by
  obtain ⟨f, fd, h1, h2, h3, h4⟩ := F.ex
  exact pe_call h4 (hr.mono hj) hg h1 h2 h3 .nil hx ha hdb he hpl
theorem pe_callF0 (F : FnAt X.prog X.w X.K X.mg X.base cx x k ps sp) (hr : Room j X.A) (hx : Passes cx X E) (hj : k ≤ j := by decide) (hg : Gl X x := by rfl)
    (hdb : (x == ("__debug__" : Str)) = false := by decide) : PE X (.Call (.Name x p) [] [] pos) (tCall sp [] E tNil) := by
  obtain ⟨f, fd, h1, h2, h3, h4⟩ := F.ex
  exact pe_call0 h4 (hr.mono hj) hg h1 h2 h3 .nil hx hdb
end

/-! ## constants of the module -/
/-- the module's name x holds the value v -/
def GlobC (mg : Str → Option Value) (x : Str) (v : V) : Prop := ∃ u, mg x = some u ∧ RelV v u
theorem pe_gc {X : Cx} {x : Str} {v : V} {pos : Pos} (h : GlobC X.mg x v) (hg : Gl X x := by rfl) (hd : (x == ("__debug__" : Str)) = false := by decide) : PE X (.Name x pos) (tC v) := by
  obtain ⟨u, h1, h2⟩ := h
  exact pe_glob hg h1 h2 hd
/-- a tuple that stands wherever one looks -/
def TupK (K : PySem.W.Frag) (a : Addr) (xs : List V) : Prop := ∀ H, SqT K H a xs
def GlobT (K : PySem.W.Frag) (mg : Str → Option Value) (x : Str) (xs : List V) : Prop := ∃ a, mg x = some (.ref a) ∧ TupK K a xs
def tGT (K : PySem.W.Frag) (xs : List V) : TE := fun _ H Q => ∀ a, TupK K a xs → Q (.ref a) H
theorem pe_gt {X : Cx} {x : Str} {xs : List V} {pos : Pos} (h : GlobT X.K X.mg x xs) (hg : Gl X x := by rfl) (hd : (x == ("__debug__" : Str)) = false := by decide) : PE X (.Name x pos) (tGT X.K xs) := by
  obtain ⟨a, h1, h2⟩ := h
  exact ⟨fun pins s σ H Q I q => (pe_glob (v := .ref a) hg h1 rfl hd).run pins s σ H Q I (q a h2)⟩
/-- what a written tuple's items are -/
def valsB : List V → List Value → Bool
  | [], [] => true
  | x :: xs, u :: us => (absV u == some x) && valsB xs us
  | _, _ => false
theorem relV_of_abs {x : V} {u : Value} (h : absV u = some x) : RelV x u := by
  cases u <;> simp [absV] at h <;> subst h <;> first | rfl | exact ⟨_, rfl⟩
theorem vals_of_B : ∀ {xs : List V} {us : List Value}, valsB xs us = true → Vals xs us
  | [], [], _ => .nil
  | x :: xs, u :: us, h => by
    unfold valsB at h
    rw [Bool.and_eq_true] at h
    exact .cons (relV_of_abs (by simpa using h.1)) (vals_of_B h.2)
  | [], _ :: _, h => by simp [valsB] at h
  | _ :: _, [], h => by simp [valsB] at h
theorem globT_mk {K : PySem.W.Frag} {mg : Str → Option Value} {h : Heap} {x : Str} {a : Addr} {n : Nat} {its : Array Value} {od : Option Addr} {sl : Array (Option Value)} {xs : List V} (X : K.In h) (G : h.Ns mainGlobals mg)
    (ha : PySem.W.nsIn K mainGlobals x = some (some (.ref a))) (l : K.lookup a = some ⟨.type "tuple", od, .seq its n, sl⟩) (hs : its.size ≤ sizeLine) (hv : Vals xs its.toList) : GlobT K mg x xs :=
  ⟨a, PySem.W.mg_of X G ha, fun _ => .inr ⟨_, its, n, l, rfl, rfl, hs, hv⟩⟩
theorem globC_mk {K : PySem.W.Frag} {mg : Str → Option Value} {h : Heap} {x : Str} {u : Value} {v : V} (X : K.In h) (G : h.Ns mainGlobals mg) (ha : PySem.W.nsIn K mainGlobals x = some (some u)) (r : RelV v u) : GlobC mg x v :=
  ⟨u, PySem.W.mg_of X G ha, r⟩

theorem pc_inK {X : Cx} {x : Str} {xs : List V} {a : Expr} {ta : TE} {pos : Pos} (h : GlobT X.K X.mg x xs) (ha : PE X a ta) (hg : Gl X x := by rfl) (hd : (x == ("__debug__" : Str)) = false := by decide) :
    PC X .In a (.Name x pos) (fun σ H Q => ta σ H fun v H1 => flatV v = true ∧ xs.all flatV = true ∧ Q (.bl (inV v xs)) H1) := by
  obtain ⟨b, h1, h2⟩ := h
  refine ⟨fun pins s σ H Q I q => ?_⟩
  refine bin (R := fun v u H2 => u = .ref b ∧ flatV v = true ∧ xs.all flatV = true ∧ Q (.bl (inV v xs)) H2) ha (pe_glob (v := .ref b) hg h1 rfl hd) I ?_ fun v u s2 x y H2 I2 rx ry q => ?_
  · refine (show ta σ H fun v H1 => (V.ref b = .ref b ∧ flatV v = true ∧ xs.all flatV = true ∧ Q (.bl (inV v xs)) H1) from ?_)
    have : (fun v H1 => flatV v = true ∧ xs.all flatV = true ∧ Q (.bl (inV v xs)) H1) = (fun (v : V) (H1 : Hp) => (V.ref b = .ref b ∧ flatV v = true ∧ xs.all flatV = true ∧ Q (.bl (inV v xs)) H1)) := by
      funext v H1
      simp
    rw [← this]
    exact q
  · obtain ⟨rfl, q1, q2, q3⟩ := q
    exact op_in_seq pins s2 σ H2 _ _ _ _ Q I2 rx ry ⟨b, xs, rfl, .inr (h2 H2), q1, q2, q3⟩
theorem pc_notInK {X : Cx} {x : Str} {xs : List V} {a : Expr} {ta : TE} {pos : Pos} (h : GlobT X.K X.mg x xs) (ha : PE X a ta) (hg : Gl X x := by rfl) (hd : (x == ("__debug__" : Str)) = false := by decide) :
    PC X .NotIn a (.Name x pos) (fun σ H Q => ta σ H fun v H1 => flatV v = true ∧ xs.all flatV = true ∧ Q (.bl (!inV v xs)) H1) := by
  obtain ⟨b, h1, h2⟩ := h
  refine ⟨fun pins s σ H Q I q => ?_⟩
  refine bin (R := fun v u H2 => u = .ref b ∧ flatV v = true ∧ xs.all flatV = true ∧ Q (.bl (!inV v xs)) H2) ha (pe_glob (v := .ref b) hg h1 rfl hd) I ?_ fun v u s2 x y H2 I2 rx ry q => ?_
  · refine (show ta σ H fun v H1 => (V.ref b = .ref b ∧ flatV v = true ∧ xs.all flatV = true ∧ Q (.bl (!inV v xs)) H1) from ?_)
    have : (fun v H1 => flatV v = true ∧ xs.all flatV = true ∧ Q (.bl (!inV v xs)) H1) = (fun (v : V) (H1 : Hp) => (V.ref b = .ref b ∧ flatV v = true ∧ xs.all flatV = true ∧ Q (.bl (!inV v xs)) H1)) := by
      funext v H1
      simp
    rw [← this]
    exact q
  · obtain ⟨rfl, q1, q2, q3⟩ := q
    exact op_notIn_seq pins s2 σ H2 _ _ _ _ Q I2 rx ry ⟨b, xs, rfl, .inr (h2 H2), q1, q2, q3⟩

/-! ## texts as lists of code points -/
def mkS (l : List Nat) : Str := ⟨l.toArray⟩
theorem mkS_len (l : List Nat) : (mkS l).length = l.length := by simp [mkS, Str.length]
theorem mkS_tl (z : Str) : mkS z.cps.toList = z := by simp [mkS]
theorem tl_mkS (l : List Nat) : (mkS l).cps.toList = l := by simp [mkS]
theorem mkS_inj {a b : List Nat} (h : mkS a = mkS b) : a = b := by rw [← tl_mkS a, ← tl_mkS b, h]
theorem mkS_app (a b : List Nat) : mkS a ++ mkS b = mkS (a ++ b) := by
  show Str.append _ _ = _
  simp [Str.append, mkS]
theorem empty_mk : ("" : Str) = mkS [] := by decide +kernel
theorem mkS_one (c : Nat) : (⟨#[c]⟩ : Str) = mkS [c] := rfl
theorem cutS_to (l : List Nat) (n : Nat) : cutS (mkS l) none (some (n : Int)) = mkS (l.take n) := by
  unfold cutS
  rw [HT.sIx_none, HT.sIx_nat, mkS_len, tl_mkS]
  show mkS _ = _
  congr 1
  rw [List.drop_zero, Nat.sub_zero]
  by_cases h : n ≤ l.length
  · rw [Nat.min_eq_left h]
  · rw [Nat.min_eq_right (by omega), List.take_of_length_le (Nat.le_refl _), List.take_of_length_le (by omega)]
theorem cutS_from (l : List Nat) (n : Nat) : cutS (mkS l) (some (n : Int)) none = mkS (l.drop n) := by
  unfold cutS
  rw [HT.sIx_none, HT.sIx_nat, mkS_len, tl_mkS]
  show mkS _ = _
  congr 1
  by_cases h : n ≤ l.length
  · rw [Nat.min_eq_left h, List.take_of_length_le (by rw [List.length_drop]; omega)]
  · rw [Nat.min_eq_right (by omega), List.drop_of_length_le (Nat.le_refl _), List.drop_of_length_le (by omega)]
    simp
theorem cutS_le (z : Str) (lo hi : Option Int) : (cutS z lo hi).length ≤ z.length := by
  unfold cutS Str.length
  simp only [List.size_toArray, List.length_take, List.length_drop, Array.length_toList]
  omega
theorem len_app (x y : Str) : (x ++ y).length = x.length + y.length := strLen_append x y
/-- the item at an int's place -/
theorem atI_int {α : Type} {xs : List α} {i : Int} {v : α} (h0 : 0 ≤ i) (h : xs[i.toNat]? = some v) : atI xs i = some v := by
  obtain ⟨n, rfl⟩ := Int.eq_ofNat_of_zero_le h0
  exact atI_nat h

theorem atI_ex {α : Type} {xs : List α} {i : Int} (h0 : 0 ≤ i) (h : i < xs.length) : ∃ v, v ∈ xs ∧ atI xs i = some v := by
  have hn : i.toNat < xs.length := by omega
  exact ⟨xs[i.toNat], List.getElem_mem hn, atI_int h0 (List.getElem?_eq_getElem hn)⟩
theorem line_ge {n : Nat} (h : n ≤ 1000000) : n ≤ sizeLine := by rw [sizeLine_eq]; omega
/-- the law's def, and how its one argument binds -/
structure LawAt (K : PySem.W.Frag) (mg : Str → Option Value) (st : Stmt) (p : Str) : Prop where
  ex : ∃ f fd, mg "law" = some (.ref f) ∧ Fun K "law" "law" st f fd ∧ ∀ u : Value, bindArgs fd ⟨[u], []⟩ = pure [(p, u)]
theorem lawAt_mk {K : PySem.W.Frag} {mg : Str → Option Value} {h : Heap} {st : Stmt} {p : Str} {f : Addr} {oc : Value} {od an : Option Addr} {osl : Array (Option Value)} {kV doc pm cdv ct : Value} (X : K.In h) (G : h.Ns mainGlobals mg)
    (a : PySem.W.nsIn K mainGlobals "law" = some (some (.ref f))) (l : K.lookup f = some ⟨oc, od, .func (PySem.W.fnOf "law" "law" (defArgs st) (defBody st) (defScope st) .none kV doc pm an cdv ct), osl⟩)
    (c : PySem.W.codeIn K cdv "law" = true) (k : PySem.W.keepIn K (.ref f) = true)
    (b : ∀ u : Value, bindArgs (PySem.W.fnOf "law" "law" (defArgs st) (defBody st) (defScope st) .none kV doc pm an cdv ct) ⟨[u], []⟩ = pure [(p, u)]) : LawAt K mg st p :=
  ⟨f, _, PySem.W.mg_of X G a, fun_mk l c k, b⟩
theorem law_end {prog : Program} {w : World} {K : PySem.W.Frag} {mg : Str → Option Value} {st : Stmt} {p : Str} {fa : Addr} {cx : CXT} {k : Nat} {sp : Sp} (L : LawAt K mg st p) (hfa : mg "law" = some (.ref fa))
    (ok : ∀ (base : Heap) (f : Addr) (fd : FuncData), Fun K "law" "law" st f fd → FnOk prog w K mg base cx k f fd [p] sp) :
    ∃ fd : FuncData, (∀ (s : Shared) (u : Value), BindsTo s fd ⟨[u], []⟩ [(p, u)]) ∧ ∀ base : Heap, K.In base → base.Ns mainGlobals mg → FnOk prog w K mg base cx k fa fd [p] sp := by
  obtain ⟨f, fd, h1, h2, h3⟩ := L.ex
  have e : f = fa := by
    have := h1.symm.trans hfa
    injection this with e
    injection e
  subst e
  exact ⟨fd, fun s u => .of_eq (h3 u), fun base _ _ => ok base f fd h2⟩
/-- what is promised of a law: True, whatever stands -/
def spLaw (K : PySem.W.Frag) : Sp := fun vs H Q _ => ∃ (a : Addr) (ns : List Int), vs = [.ref a] ∧ SqL K H a (ns.map V.int) ∧ ns.length ≤ 63 ∧ ∀ H', Q (.bl true) H'
theorem law_walk {l : PySem.W.OpenLaw} {q : Program} {loose : List Str} {XP : (Str → Option Value) → Heap → Prop} {YP : World → Heap → Prop} {d : DefRec} {K : Params → PySem.W.Frag} {cx : CXT} {k : Nat} {p : Str} (hr : Room k callerA) (hn : l.most = some 63) (hdf : d.params.defaults = [])
    (hY : ∀ (w : World) (h : Heap), YP w h → (K w.params).In h) (hcx : ∀ (H : Hp) (s : Shared) (e : Value) (s' : Shared), cx [] H s (fun _ _ _ => False) e s' → False)
    (F : ∀ (w : World) (mg : Str → Option Value) (fa : Addr) (h : Heap), (K w.params).In h → h.Ns mainGlobals mg → mg d.name = some (.ref fa) →
      ∃ fd : FuncData, (∀ (s : Shared) (u : Value), BindsTo s fd ⟨[u], []⟩ [(p, u)]) ∧ ∀ base : Heap, (K w.params).In base → base.Ns mainGlobals mg → FnOk l.prog w (K w.params) mg base cx k fa fd [p] (spLaw (K w.params))) :
    PySem.W.WalkO q loose XP YP l.row.toRowW d [] (fun f vs => PySem.call f vs) :=
  L2.walk_of (n := 63) (k := k) (x := p) (CX := fun _ => cx) (sp := fun w => spLaw (K w.params)) hn (by decide) hdf hr hY F (fun _ _ a ns hl _ hS => ⟨a, ns, rfl, hS, hl, fun _ => rfl⟩) fun _ H s e s' z => hcx H s e s' z

/-! ## isinstance of flat values and bool, int, str -/
def isBlV : V → Bool
  | .bl _ => true
  | _ => false
def isIntV : V → Bool
  | .bl _ => true
  | .int _ => true
  | _ => false
def isStrV : V → Bool
  | .str _ => true
  | _ => false
theorem scal_ii {a b : Int} : scal (.int a) (.int b) = true := rfl
theorem scal_bb {a b : Bool} : scal (.bl a) (.bl b) = true := rfl
theorem scal_ss {a b : Str} : scal (.str a) (.str b) = true := rfl
theorem scal_sb {a : Str} {b : Bool} : scal (.str a) (.bl b) = true := rfl
theorem scal_bs {a : Str} {b : Bool} : scal (.bl b) (.str a) = true := rfl
theorem flat_s {z : Str} : flatV (.str z) = true := rfl
theorem flat_i {z : Int} : flatV (.int z) = true := rfl
theorem flat_b {z : Bool} : flatV (.bl z) = true := rfl
theorem flat_n : flatV .non = true := rfl
def rIsF (n : String) (f : V → Bool) : List V → Hp → VK → Prop := fun xs H Q => ∃ x, xs = [x, .ty n] ∧ flatV x = true ∧ Q (.bl (f x)) H
theorem call_isF {X : Cx} {n : String} {f : V → Bool} (hn : kitB "NoneType" n = some (f .non)) (hb : ∀ b, kitB "bool" n = some (f (.bl b))) (hi : ∀ i, kitB "int" n = some (f (.int i))) (hs : ∀ z, kitB "str" n = some (f (.str z))) :
    CallR X (.builtin "isinstance") (rIsF n f) := by
  intro pins s σ H xs us Q I r h
  obtain ⟨x, rfl, fx, q⟩ := h
  refine call_isi pins s σ H _ us Q I r ?_
  cases x with
  | non => exact ⟨_, _, _, _, _, rfl, .ty n, .base (.non), kit_ty hn, q⟩
  | bl b => exact ⟨_, _, _, _, _, rfl, .ty n, .base (.bl b), kit_ty (hb b), q⟩
  | int i => exact ⟨_, _, _, _, _, rfl, .ty n, .base (.int i), kit_ty (hi i), q⟩
  | str z => exact ⟨_, _, _, _, _, rfl, .ty n, .base (.str z), kit_ty (hs z), q⟩
  | byt b => cases fx
  | flt b => cases fx
  | ref a => cases fx
  | ty a => cases fx
theorem call_isBool {X : Cx} : CallR X (.builtin "isinstance") (rIsF "bool" isBlV) :=
  call_isF (by decide +kernel) (fun _ => (by decide +kernel : kitB "bool" "bool" = some true)) (fun _ => (by decide +kernel : kitB "int" "bool" = some false)) fun _ => (by decide +kernel : kitB "str" "bool" = some false)
theorem call_isInt {X : Cx} : CallR X (.builtin "isinstance") (rIsF "int" isIntV) :=
  call_isF (by decide +kernel) (fun _ => (by decide +kernel : kitB "bool" "int" = some true)) (fun _ => (by decide +kernel : kitB "int" "int" = some true)) fun _ => (by decide +kernel : kitB "str" "int" = some false)

theorem Same.new {H : Hp} {p : Addr} {o : HO} (h : H p = none) : Same H (upd H p o) := fun b u e => by
  rw [upd_ne (ne_of_none e h)]
  exact e
/-- a store to what H does not know -/
theorem Same.mut {H H' : Hp} {p : Addr} {o : HO} (s : Same H H') (h : H p = none) : Same H (upd H' p o) := fun b u e => by
  rw [upd_ne (ne_of_none e h)]
  exact s b u e
theorem Same.seqT {K : PySem.W.Frag} {H H' : Hp} {a : Addr} {xs : List V} (e : Same H H') (h : SqT K H a xs) : SqT K H' a xs := by
  rcases h with (h | ⟨o, h⟩) | h
  · exact .inl (.inl (e _ _ h))
  · exact .inl (.inr ⟨o, e _ _ h⟩)
  · exact .inr h
/-- [..] == [] of an empty list -/
theorem ne_empty {K : PySem.W.Frag} {H : Hp} {a b : Addr} {Q : VK} (ha : SqL K H a []) (hb : SqL K H b []) (q : Q (.bl false) H) : rNeD K (.ref a) (.ref b) H Q :=
  ⟨.list [], .list [], .lst ha .nil, .lst hb .nil, by decide +kernel, by decide +kernel, q⟩

/-! ## one's own short ways -/
abbrev St : Type := L2.St
theorem exw {α : Type} {P : α → Prop} {a : α} (h : P a) : ∃ x, P x := ⟨a, h⟩
/-- for over a text that the body leaves as it is -/
theorem for_str {x : Str} {g : TG} {tb : TS} {D : Ends} {σ : St} {H : Hp} (Pv : Nat → St → Hp → Prop) (h0 : Pv 0 σ H)
    (hs : ∀ i c σ H, x.cps[i]? = some c → Pv i σ H → g (.str ⟨#[c]⟩) σ H fun σ2 H2 => tb { D with nx := Pv (i + 1), ct := Pv (i + 1), bk := D.nx } σ2 H2) (hd : ∀ σ H, Pv x.cps.size σ H → D.nx σ H) :
    ∃ W : Nat → Nat → St → Hp → Prop, (∃ m, W 0 m σ H) ∧ ∀ i m σ H, W i m σ H →
      ((Its x).stop i H ∧ D.nx σ H) ∨ ((Its x).go i H ∧ ∃ N : St → Hp → Prop, (∀ σ' H', N σ' H' → ∃ m', m' < m ∧ W (i + 1) m' σ' H') ∧ ∀ v H', (Its x).yld i H v H' → g v σ H' fun σ2 H2 => tb { D with nx := N, ct := N, bk := D.nx } σ2 H2) := by
  refine ⟨fun i m σ H => m = x.cps.size - i ∧ i ≤ x.cps.size ∧ Pv i σ H, ⟨x.cps.size, by simp, Nat.zero_le _, h0⟩, ?_⟩
  rintro i m σ H ⟨rfl, hi, p⟩
  by_cases hlt : i < x.cps.size
  · refine .inr ⟨hlt, Pv (i + 1), fun σ' H' p' => ⟨x.cps.size - (i + 1), by omega, rfl, hlt, p'⟩, fun v H' y => ?_⟩
    obtain ⟨e, c, hc, y⟩ := y
    subst e y
    exact hs i c σ _ hc p
  · have e : i = x.cps.size := by omega
    subst e
    exact .inl ⟨Nat.le_refl _, hd σ H p⟩
theorem gcons_eq {t : TG} {u : TGs} {v : V} {r : List V} {σ : L2.St} {H : Hp} {Q : L2.St → Hp → Prop} : gCons t u (v :: r) σ H Q ↔ t v σ H fun σ' H' => u r σ' H' Q :=
  ⟨fun ⟨_, _, e, q⟩ => by cases e; exact q, fun q => ⟨v, r, rfl, q⟩⟩
theorem gnil_eq {σ : L2.St} {H : Hp} {Q : L2.St → Hp → Prop} : gNil [] σ H Q ↔ Q σ H := ⟨fun ⟨_, q⟩ => q, fun q => ⟨rfl, q⟩⟩
theorem cxOf_K {CX : CXT} {P : Program} {w : World} {K : PySem.W.Frag} {mg : Str → Option Value} {base : Heap} {N : List Str} {q : Str} {sc : Scope} {f : Addr} {cd : Value} {A : Around} {outer : List Env} {s : Shared} {H : Hp} {E : XK} :
    (cxOf CX P w K mg base N q sc f cd A outer s H E).K = K := rfl
end Ru

set_option Elab.async false
set_option linter.all false
set_option maxRecDepth 100000
set_option maxHeartbeats 2000000
/-! objects: methods by the receiver's class, tuple(d.keys()), xs != [] of any list -/
namespace Ru
open PySem PySem.Spec PyProof.Rows L2
abbrev St' : Type := L2.St

/-! ## methods by class -/
structure DispAt (P : Program) (w : World) (K : PySem.W.Frag) (mg : Str → Option Value) (base : Heap) (cx : CXT) (T : Addr → Prop) (m : Str) (k : Nat) (ps : List Str) (sp : Addr → Sp) : Prop where
  ex : ∀ C, T C → ∃ f fd, Cls K C ∧ Meth K C m f ∧ Binds K fd ps [] ∧ FnOk P w K mg base cx k f fd ps (sp C)
theorem DispAt.mono {P : Program} {w : World} {K : PySem.W.Frag} {mg : Str → Option Value} {base : Heap} {cx : CXT} {T : Addr → Prop} {m : Str} {j k : Nat} {ps : List Str} {sp : Addr → Sp} (D : DispAt P w K mg base cx T m j ps sp) (h : j ≤ k) : DispAt P w K mg base cx T m k ps sp :=
  ⟨fun C t => let ⟨f, fd, h1, h2, h3, h4⟩ := D.ex C t; ⟨f, fd, h1, h2, h3, h4.mono h⟩⟩
theorem DispAt.imp {P : Program} {w : World} {K : PySem.W.Frag} {mg : Str → Option Value} {base : Heap} {cx : CXT} {T : Addr → Prop} {m : Str} {k : Nat} {ps : List Str} {sp sp' : Addr → Sp} (D : DispAt P w K mg base cx T m k ps sp) (h : ∀ C vs H Q E, T C → sp' C vs H Q E → sp C vs H Q E) : DispAt P w K mg base cx T m k ps sp' :=
  ⟨fun C t => let ⟨f, fd, h1, h2, h3, h4⟩ := D.ex C t; ⟨f, fd, h1, h2, h3, h4.imp fun vs H Q E => h C vs H Q E t⟩⟩
/-- o.m(..), o an instance of one of the classes T -/
def tMethD (T : Addr → Prop) (m : Str) (sp : Addr → Sp) (E : XK) (ta : TE) (t : TA) : TE := fun σ H Q => ta σ H fun x H1 => ∃ a C dx fs, x = .ref a ∧ H1 a = some (.ins C dx fs) ∧ T C ∧ fs.lookup m = none ∧
  t σ H1 fun vs H2 => sp C (x :: vs) H2 Q E
section
variable {X : Cx} {cx : CXT} {j k : Nat} {ps : List Str} {sp : Addr → Sp} {E : XK} {T : Addr → Prop} {m : Str} {p pos apos : Pos} {e o : Expr} {es : List Expr} {ta : TE} {t : TA}
theorem pe_methD {pl : Sem Bool} (D : DispAt X.prog X.w X.K X.mg X.base cx T m k ps sp) (hr : Room j X.A) (hx : Passes cx X E) (he : PE X o ta) (ha : PA X (e :: es) t) (hj : k ≤ j := by decide)
    (hst : starEach (e :: es) X.env = (false, eval e X.env) :: starEach es X.env := by rfl) (hpl : (backTo pos (starEach es X.env)).any (·.1) = false := by rfl)
    (ht : eval (.Call (.Attribute o m apos) (e :: es) [] pos) X.env = (do
      let ov ← eval o X.env
      standAt apos.atName
      let (f, first) ← holding [ov] (getMethod ov m pl)
      callWith pos f first (backTo pos (starEach (e :: es) X.env)) (backToKw pos (keywordEach [] X.env))) := by rfl) :
    PE X (.Call (.Attribute o m apos) (e :: es) [] pos) (tMethD T m sp E ta t) := by
  refine ⟨fun pins s σ H Q I h => ?_⟩
  refine PySem.W.methodCall_KW (pl := pl) (thn (he.run pins s σ H _ I h) fun u s1 ⟨x, H1, I1, rx, a, C, dx, fs, ex, ea, tc, l, q⟩ => ?_) ht
  subst ex
  obtain rfl : u = Value.ref a := rx
  obtain ⟨f, fd, c, hm, hb, F⟩ := D.ex C tc
  refine getmeth_ok I1 ea c hm l ?_
  refine PySem.W.callWith_K (first := [.ref a]) (h₀ := X.base) I.ok.mod.kin hm.kp (thn (ha.run pos pins s1 σ H1 _ I1 q) fun us s2 ⟨vs, H2, I2, r, q2⟩ => ⟨I2.kIn, ?_⟩) hst hpl
  exact run_fn (us := .ref a :: us) (vs := .ref a :: vs) (dvs := []) (ds := []) F (hr.mono hj) hb .nil hx I2 (.cons rfl r) (by rw [List.append_nil]; exact q2)
theorem pe_methD0 {pl : Sem Bool} (D : DispAt X.prog X.w X.K X.mg X.base cx T m k ps sp) (hr : Room j X.A) (hx : Passes cx X E) (he : PE X o ta) (hj : k ≤ j := by decide)
    (ht : eval (.Call (.Attribute o m apos) [] [] pos) X.env = (do
      let ov ← eval o X.env
      standAt apos.atName
      let (f, first) ← holding [ov] (getMethod ov m pl)
      callWith pos f first (backTo pos (starEach [] X.env)) (backToKw pos (keywordEach [] X.env))) := by rfl) :
    PE X (.Call (.Attribute o m apos) [] [] pos) (tMethD T m sp E ta tNil) := by
  refine ⟨fun pins s σ H Q I h => ?_⟩
  refine PySem.W.methodCall_KW (pl := pl) (thn (he.run pins s σ H _ I h) fun u s1 ⟨x, H1, I1, rx, a, C, dx, fs, ex, ea, tc, l, q⟩ => ?_) ht
  subst ex
  obtain rfl : u = Value.ref a := rx
  obtain ⟨f, fd, c, hm, hb, F⟩ := D.ex C tc
  refine getmeth_ok I1 ea c hm l ?_
  refine PySem.W.callWith_K0 (first := [.ref a]) I1.kIn hm.kp ?_
  exact run_fn (us := [.ref a]) (vs := [.ref a]) (dvs := []) (ds := []) F (hr.mono hj) hb .nil hx I1 (.cons rfl .nil) q
end
/-- a method of the class at C, as the text has it -/
structure MethAt (K : PySem.W.Frag) (C : Addr) (m qual : Str) (st : Stmt) (ps : List Str) : Prop where
  ex : ∃ f fd, Meth K C m f ∧ Fun K m qual st f fd ∧ Binds K fd ps []
theorem methAt_mk {K : PySem.W.Frag} {C : Addr} {m qual : Str} {st : Stmt} {ps : List Str} {f : Addr} {oc : Value} {od an : Option Addr} {osl : Array (Option Value)} {kV doc pm cdv ct : Value}
    (a : PySem.W.findIn K (.ref C) m = some (some (.ref f))) (i : PySem.W.isFn K (.ref f) = true) (l : K.lookup f = some ⟨oc, od, .func (PySem.W.fnOf m qual (defArgs st) (defBody st) (defScope st) .none kV doc pm an cdv ct), osl⟩)
    (c : PySem.W.codeIn K cdv qual = true) (k : PySem.W.keepIn K (.ref f) = true)
    (b : ∀ us : List Value, us.length = ps.length → bindArgs (PySem.W.fnOf m qual (defArgs st) (defBody st) (defScope st) .none kV doc pm an cdv ct) ⟨us, []⟩ = pure (ps.zip us)) : MethAt K C m qual st ps :=
  ⟨f, _, ⟨a, i, k⟩, fun_mk l c k, .all b⟩
theorem methAt_ok {P : Program} {w : World} {K : PySem.W.Frag} {mg : Str → Option Value} {base : Heap} {C : Addr} {m qual : Str} {st : Stmt} {N ps : List Str} {k : Nat} {sp : Sp} (c : Cls K C) (D : MethAt K C m qual st ps) (S : FnScope N ps (defScope st)) (len : ∀ vs H Q E, sp vs H Q E → vs.length = ps.length)
    (hbody : ∀ (f : Addr) (cdv : Value) (A : Around) (outer : List Env) (s : Shared) (H : Hp) (vs : List V) (Q : VK) (E : XK), Room k (A.deeper (envOfC qual (defScope st) s.heap.objs.size f cdv)) → sp vs H Q E →
      ∃ t, PSs (cxOf CX0 P w K mg base N qual (defScope st) f cdv A outer s H E).nox (defBody st) t ∧ t { nx := fun _ H' => Q .non H', rt := Q } (start N vs) H) :
    ∃ f fd, Cls K C ∧ Meth K C m f ∧ Binds K fd ps [] ∧ FnOk P w K mg base CX0 (k + 1) f fd ps sp := by
  obtain ⟨f, fd, h1, h2, h3⟩ := D.ex
  exact ⟨f, fd, c, h1, h3, h2.ok S len (hbody f)⟩
/-- what is asked of an own class -/
structure ClsAt (K : PySem.W.Frag) (mg : Str → Option Value) (x : Str) (C : Addr) : Prop where
  mg_ : mg x = some (.ref C)
  cl : Cls K C
  ha : PySem.W.findIn K (.ref C) "__class__" = some (some (.builtin "object.__class__"))
  hn : PySem.W.specialIn K (.builtin "object.__class__") "__get__" = some (some (.builtin "getset_descriptor.__get__"))
  htk : PySem.W.takesIn K (.builtin "object.__class__") = some true
  hm : PySem.W.mroIn K C (.type "object") = some true
  mkg : PySem.W.makesIn K C = true
  kp : PySem.W.keepIn K (.ref C) = true
theorem clsAt_mk {K : PySem.W.Frag} {mg : Str → Option Value} {h : Heap} {x : Str} {C : Addr} (X : K.In h) (G : h.Ns mainGlobals mg) (a : PySem.W.nsIn K mainGlobals x = some (some (.ref C)))
    (pg : PySem.W.plainGet K C Str.empty = true) (hd : PySem.W.hasDictIn K C = true) (po : PySem.W.plainOver K C = true) (sa : PySem.W.findIn K (.ref C) "__setattr__" = some (some (.builtin "object.__setattr__")))
    (ha : PySem.W.findIn K (.ref C) "__class__" = some (some (.builtin "object.__class__"))) (hn : PySem.W.specialIn K (.builtin "object.__class__") "__get__" = some (some (.builtin "getset_descriptor.__get__")))
    (htk : PySem.W.takesIn K (.builtin "object.__class__") = some true) (hm : PySem.W.mroIn K C (.type "object") = some true) (mk : PySem.W.makesIn K C = true) (kp : PySem.W.keepIn K (.ref C) = true) : ClsAt K mg x C :=
  ⟨PySem.W.mg_of X G a, ⟨pg, hd, po, sa⟩, ha, hn, htk, hm, mk, kp⟩
/-- a new instance of the class called x -/
structure MakAt (P : Program) (w : World) (K : PySem.W.Frag) (mg : Str → Option Value) (base : Heap) (cx : CXT) (x : Str) (C : Addr) (k : Nat) (ps : List Str) (sp : Sp) : Prop where
  ex : ∃ f fd, mg x = some (.ref C) ∧ Mk K C f ∧ Binds K fd ps [] ∧ FnOk P w K mg base cx k f fd ps sp
theorem makAt_of {P : Program} {w : World} {K : PySem.W.Frag} {mg : Str → Option Value} {base : Heap} {cx : CXT} {x : Str} {C : Addr} {k : Nat} {ps : List Str} {sp : Sp} (c : ClsAt K mg x C)
    (h : ∃ f fd, Cls K C ∧ Meth K C "__init__" f ∧ Binds K fd ps [] ∧ FnOk P w K mg base cx k f fd ps sp) : MakAt P w K mg base cx x C k ps sp := by
  obtain ⟨f, fd, _, h1, h2, h3⟩ := h
  exact ⟨f, fd, c.mg_, ⟨c.mkg, h1.at_, h1.fn, c.kp⟩, h2, h3⟩
section
variable {X : Cx} {cx : CXT} {j k : Nat} {ps : List Str} {sp : Sp} {E : XK} {x : Str} {C : Addr} {p pos : Pos} {e : Expr} {es : List Expr} {t : TA}
theorem pe_makeF (M : MakAt X.prog X.w X.K X.mg X.base cx x C k ps sp) (hr : Room j X.A) (hx : Passes cx X E) (ha : PA X (e :: es) t) (hj : k + 1 ≤ j := by decide) (hg : Gl X x := by rfl)
    (hdb : (x == ("__debug__" : Str)) = false := by decide) (he : starEach (e :: es) X.env = (false, eval e X.env) :: starEach es X.env := by rfl) (hpl : (backTo pos (starEach es X.env)).any (·.1) = false := by rfl) :
    PE X (.Call (.Name x p) (e :: es) [] pos) (tMake C sp [] E t) := by
  obtain ⟨f, fd, h1, h2, h3, h4⟩ := M.ex
  exact pe_make h2 h4 (hr.mono hj) hg h1 h3 .nil hx ha hdb he hpl
end

/-! ## isinstance(x, C), C one of one's own classes -/
theorem pe_cls {X : Cx} {x : Str} {C : Addr} {pos : Pos} (h : ClsAt X.K X.mg x C) (hg : Gl X x := by rfl) (hd : (x == ("__debug__" : Str)) = false := by decide) : PE X (.Name x pos) (tC (.ref C)) := pe_glob hg h.mg_ rfl hd
/-- the answer, by the receiver's class -/
def rIsO (K : PySem.W.Frag) (D : Addr) (T : Addr → Bool → Prop) : List V → Hp → VK → Prop := fun xs H Q => ∃ a C dx fs b, xs = [.ref a, .ref D] ∧ H a = some (.ins C dx fs) ∧ T C b ∧ Q (.bl b) H
/-- for each class C that may come: what it says, and isinstance's answer -/
def IsT (K : PySem.W.Frag) (D : Addr) (T : Addr → Bool → Prop) : Prop := ∀ C b, T C b → (∃ mg x, ClsAt K mg x C) ∧ PySem.W.kitOne K (.ref C) (.ref D) = some b
theorem call_isO {X : Cx} {D : Addr} {T : Addr → Bool → Prop} (h : IsT X.K D T) : CallR X (.builtin "isinstance") (rIsO X.K D T) := by
  intro pins s σ H xs us Q I r hq
  obtain ⟨a, C, dx, fs, b, rfl, ha, t, q⟩ := hq
  obtain ⟨⟨mg, x, c⟩, e⟩ := h C b t
  obtain ⟨u, w', rfl, ru, rw'⟩ := vals2 r
  cases rw'
  exact isinst_ok I ru (TyOf.ins ha c.cl c.ha c.hn c.htk c.hm) e fun tk => ⟨.bl b, H, I.tok _, rfl, q⟩

/-! ## tuple(d.keys()) -/
section
open PySem.W (KdlSrc kdu_collect KdlKeysView)
variable {prog : Program} {w : World} {A : Around} {E : Value → Shared → Prop} {s : Shared} {T : String} {r d : Addr} {n : Nat} {P : Nat → Value → Prop} {OK : Heap → Prop}
theorem code_tuple_new_kdl {Q₁ : Value → Shared → Prop} (K : KdlSrc prog w T r d n P OK) (hh : A.handled = none) (hok : OK s.heap) (hn : n ≤ sizeLine)
    (h : ∀ (h' : Heap) (tk : Nat) (acc : Array Value), (∀ b o, s.heap.get? b = some o → h'.get? b = some o) → ItemsOf P acc n →
      Q₁ (.ref h'.objs.size) { s with heap := h'.push { cls := .type "tuple", data := .seq acc }, toks := tk }) :
    codeAny (model prog w) A (.call (.builtin "tuple.__new__") ⟨[.type "tuple", .ref r], []⟩) (wants Q₁ E) s := by
  refine codeAny_of_tree ?_
  show wpAny _ A.in1 (do checkBuiltinCall "tuple.__new__" ⟨[.type "tuple", .ref r], []⟩; again (.builtin "tuple.__new__" ⟨[.type "tuple", .ref r], []⟩)) _ _ s
  refine wpAny_bind (wpAny_of_eq (F.newCall_tuple_1 _) (wpAny_pure ⟨plainId_quiet F.plain_tuple_new _, codeAny_builtin F.entry_tuple_new ?_⟩))
  rw [Around.under_plainId F.plain_tuple_new _]
  have hsub := sub_tuple_self
  have hinit := init_tuple_lookup
  have hmh := madeHere_tuple
  have hTI : s.TypeIs (.ref r) T := K.type s hok
  have hh1 : A.in1.handled = none := hh
  have hnt := K.notTuple
  wp_walk using wpAny_typeOf hTI, kdu_collect (A := A.in1) K hh1 hok hn
  intro h' tk acc hk hacc
  show wpAny _ _ (Builtin.Tuple.tupleExact acc.toList.toArray >>= fun v => ret v) _ _ _
  unfold Builtin.Tuple.tupleExact
  refine wpAny_bind (wpAny_newObj_type ?_ (by show acc.toList.toArray.size ≤ sizeLine; simp only [Array.toArray_toList]; rw [hacc.1]; exact hn))
  refine wpAny_pure ?_
  have e : acc.toList.toArray = acc := by simp
  rw [e]
  exact h h' tk acc hk hacc
theorem call_tuple_kdl {Q : Value → Shared → Prop} (K : KdlSrc prog w T r d n P OK) (hh : A.handled = none) (hok : OK s.heap) (hn : n ≤ sizeLine)
    (hQ : ∀ (h' : Heap) (tk : Nat) (acc : Array Value), (∀ b o, s.heap.get? b = some o → h'.get? b = some o) → ItemsOf P acc n →
      Q (.ref h'.objs.size) { s with heap := h'.push { cls := .type "tuple", data := .seq acc }, toks := tk }) :
    wpAny (model prog w) A (call (.type "tuple") [.ref r]) Q E s := by
  refine callType_codes (Q₁ := fun obj s₁ => s₁.TypeIs obj "tuple" ∧ Q obj s₁) F.called_tuple (F.typeCall_tuple_1 _) F.entry_object_init
    (code_tuple_new_kdl (A := A.in1) K hh hok hn fun h' tk acc hk hacc => ⟨⟨_, Heap.get?_push_size _ rfl, rfl⟩, hQ h' tk acc hk hacc⟩) fun obj s₁ h₁ => ?_
  exact ⟨h₁.1, F.args_object_init_2 obj _, object_init_meets F.called_tuple.init.lookup F.called_tuple.made (by decide) prog w A.in1 _ s₁ ⟨h₁.1, rfl, h₁.2⟩⟩
end
def tTupKeys (td : TE) : TE := fun σ H Q => td σ H fun x H1 => ∃ d kvs, x = .ref d ∧ H1 d = some (.dK kvs) ∧ ∀ q, H1 q = none → Q (.ref q) (upd H1 q (.tup (kvs.map fun kv => kV kv.1)))
theorem pe_tupKeys {X : Cx} {e : Expr} {td : TE} {p pos apos cpos : Pos} (hm : X.mg "tuple" = none) (he : PE X e td) (hc : X.calm = true := by rfl) (hg : Gl X "tuple" := by rfl) (hbase : attributeBase e "keys" X.env (eval e X.env) = eval e X.env := by rfl) (hline : (apos.endLine == cpos.line) = true := by rfl)
    (na : starEach [.Call (.Attribute e "keys" apos) [] [] cpos] X.env = (false, eval (.Call (.Attribute e "keys" apos) [] [] cpos) X.env) :: starEach [] X.env := by rfl) :
    PE X (.Call (.Name "tuple" p) [.Call (.Attribute e "keys" apos) [] [] cpos] [] pos) (tTupKeys td) := by
  refine ⟨fun pins s σ H Q I h => ?_⟩
  refine Call_ (ld_blt I hg hm boot_tuple (PyProof.Rows.callWith_type1 (args_cons ?_ na) na))
  refine wpAny_Call_method (T := "dict") (id := "dict.keys") hbase rfl hline F.plainAttrs_dict F.slot_dict_keys F.type_dict_keys (thn (he.run pins s σ H _ I h) fun u s1 ⟨x, H1, I1, rx, d, kvs, ex, hd, q⟩ => ?_)
  subst ex
  obtain rfl : u = Value.ref d := rx
  obtain ⟨z, lo, vs, rk, hdt⟩ := (show ObjOk X.prog X.w H1 s1.heap d (.dK kvs) from I1.hok d _ hd)
  obtain ⟨ep, hat⟩ := hdt.dictAt
  have hl : kvs.length = vs.length := Paired.length rk
  refine ⟨hat.dictOf.typeIs, hat.dictOf.mapOf.noDict, ?_⟩
  have k2 : ∀ b o, s1.heap.get? b = some o → (s1.heap.push { cls := .type "dict_keys", data := .fields #[.ref d] }).get? b = some o := fun b ob q => Heap.get?_push_of_some _ q
  have I2 : Inv X pins σ H1 { s1 with heap := s1.heap.push { cls := .type "dict_keys", data := .fields #[.ref d] } } := I1.kept (t' := s1.toks) k2
  have view : PySem.W.KdlKeysView (s1.heap.push { cls := .type "dict_keys", data := .fields #[.ref d] }) s1.heap.objs.size d := ⟨_, Heap.get?_push_size _ rfl, rfl, rfl⟩
  have fin : wpAny (model X.prog X.w) X.A (call (.type "tuple") [.ref s1.heap.objs.size]) (EP X pins σ Q) X.xe { s1 with heap := s1.heap.push { cls := .type "dict_keys", data := .fields #[.ref d] } } := by
    refine call_tuple_kdl (PySem.W.kdl_keys (knd := mixKind X.prog X.w) (kvs := vs) (ep := ep) (d := d)) (I1.ok.hd hc) ⟨view, hat.push _⟩ (by rw [← hl]; exact z) fun h' tk acc hk hacc => ?_
    have I3 : Inv X pins σ H1 { s1 with heap := h', toks := tk } := I2.kept (h' := h') (t' := tk) hk
    have el : acc.toList.length = acc.size := by simp
    have rv : Vals (kvs.map fun kv => kV kv.1) acc.toList := by
      refine vals_of_at (by rw [List.length_map, el, hacc.1, hl]) fun j x w h1 h2 => ?_
      obtain ⟨k, y, hky, hi⟩ := hacc.2 j w (by rw [← Array.getElem?_toList]; exact h2)
      have e1 : (kvs.map (·.1))[j]? = some k := by
        rw [KV.keys rk, List.getElem?_map, hky] <;> rfl
      have e2 : (kvs.map fun kv => kV kv.1)[j]? = some (kV k) := by
        have e3 : (kvs.map fun kv => kV kv.1) = (kvs.map (·.1)).map kV := by rw [List.map_map] <;> rfl
        rw [e3, List.getElem?_map, e1] <;> rfl
      rw [e2] at h1
      cases h1
      exact keyIs_rel hi
    have hz : (kvs.map fun kv => kV kv.1).length ≤ sizeLine := by rw [List.length_map]; exact z
    have I4 : Inv X pins σ (upd H1 h'.objs.size (.tup (kvs.map fun kv => kV kv.1))) { s1 with heap := h'.push { cls := .type "tuple", data := .seq acc }, toks := tk } := by
      refine I3.laid (t' := tk) (fun b o e => Heap.get?_push_of_some _ e) (Nat.le_refl _) (show ObjOk X.prog X.w _ _ _ (.tup _) from ⟨hz, acc.toList, rv, ?_⟩)
      have e5 : acc.toList.toArray = acc := by simp
      rw [e5]
      exact ⟨_, Heap.get?_push_size _ rfl, rfl, _, rfl⟩
    exact ⟨.ref h'.objs.size, _, I4, rfl, q _ (I3.hok.fresh (Nat.le_refl _))⟩
  show wpAny _ _ (callWith cpos (.builtin "dict.keys") [.ref d] [] []) _ X.xe s1
  exact method_meetsIn F.slot_dict_keys F.entry_dict_keys rfl (PySem.evalArgs_none ⟨rfl, hat.dictOf.typeIs, F.args_dict_keys_1 _, _, PySem.W.kdl_meets_keys (mixKind X.prog X.w) d lo, ⟨vs, hat.dictOf⟩, args_nil fin⟩)

/-! ## xs != [] of any list -/
def rNeE (K : PySem.W.Frag) : R2 := fun x y H Q => ∃ a b xs, x = .ref a ∧ y = .ref b ∧ SqL K H a xs ∧ SqL K H b [] ∧ Q (.bl (!xs.isEmpty)) H
theorem op_neE {X : Cx} (hu : X.A.units < cLine) : OpR X (compareOp .NotEq) (rNeE X.K) := by
  intro pins s σ H x y v u Q I rx ry h
  obtain ⟨a, b, xs, rfl, rfl, ha, hb, q⟩ := h
  obtain rfl : v = .ref a := rx
  obtain rfl : u = .ref b := ry
  obtain ⟨its, r1, p1, z1⟩ := I.list ha
  obtain ⟨jts, r2, p2, z2⟩ := I.list hb
  cases r2
  cases r1 with
  | nil => exact SeqAt.RcNeAt.lists (e := fun _ => true) p1.isList p2.isList rfl hu (fun j h1 _ => absurd h1 (by simp)) X.prog X.w _ _ ⟨.bl _, H, I, rfl, q⟩
  | cons r t => exact SeqAt.RcNeAt.lists_lengths p1.isList p2.isList (by simp) hu X.prog X.w _ _ ⟨.bl _, H, I, rfl, q⟩
/-! ## what never changes: tuples, instances of the classes T -/
def ImmO (T : Addr → Prop) : HO → Prop
  | .tup _ => True
  | .ins C _ _ => T C
  | _ => False
def Imm (T : Addr → Prop) (H H' : Hp) : Prop := ∀ b o, H b = some o → ImmO T o → H' b = some o
theorem Same.imm {T : Addr → Prop} {H H' : Hp} (s : Same H H') : Imm T H H' := fun b o e _ => s b o e
theorem Imm.refl {T : Addr → Prop} (H : Hp) : Imm T H H := fun _ _ e _ => e
theorem Imm.trans {T : Addr → Prop} {H H1 H2 : Hp} (a : Imm T H H1) (b : Imm T H1 H2) : Imm T H H2 := fun c o e i => b c o (a c o e i) i
/-- a store to what may change -/
theorem Imm.mut {T : Addr → Prop} {H : Hp} {p : Addr} {o u : HO} (h : H p = some u) (n : ¬ ImmO T u) : Imm T H (upd H p o) := fun b v e i => by
  rw [upd_ne]
  · exact e
  · rintro rfl
    rw [h] at e
    cases e
    exact n i
theorem Imm.new {T : Addr → Prop} {H : Hp} {p : Addr} {o : HO} (h : H p = none) : Imm T H (upd H p o) := Same.imm (Same.new h)
/-- all but what stands at p -/
def But (p : Addr) (H H' : Hp) : Prop := ∀ b o, H b = some o → b ≠ p → H' b = some o
theorem Same.but {p : Addr} {H H' : Hp} (s : Same H H') : But p H H' := fun b o e _ => s b o e
theorem But.trans {p : Addr} {H H1 H2 : Hp} (a : But p H H1) (b : But p H1 H2) : But p H H2 := fun c o e n => b c o (a c o e n) n
theorem But.upd {p : Addr} {H : Hp} {o : HO} : But p H (upd H p o) := fun b u e n => by rw [upd_ne n]; exact e
theorem But.imm {T : Addr → Prop} {p : Addr} {u : HO} {H H' : Hp} (s : But p H H') (h : H p = some u) (n : ¬ ImmO T u) : Imm T H H' := fun b o e i => s b o e (by
  rintro rfl
  rw [h] at e
  cases e
  exact n i)
theorem But.same {p : Addr} {H0 H H' : Hp} (s0 : Same H0 H) (s : But p H H') (h : H0 p = none) : Same H0 H' := fun b o e => s b o (s0 b o e) (ne_of_none e h)

/-! ## comprehensions: the list so far -/
theorem lc_push {H1 H4 : Hp} {D : Addr} {L : List V} {i : Nat} {y : V} (s : Same H1 H4) (nD : H1 D = none) (h : H4 D = some (.lst (L.take i))) (hy : L[i]? = some y) (hl : L.length ≤ 1000000) :
    ∃ acc, H4 D = some (.lst acc) ∧ acc.length < sizeLine ∧ (Same H1 (upd H4 D (.lst (acc ++ [y]))) ∧ upd H4 D (.lst (acc ++ [y])) D = some (.lst (L.take (i + 1)))) := by
  refine ⟨_, h, ?_, Same.mut s nD, ?_⟩
  · rw [List.length_take, sizeLine_eq]
    omega
  · rw [upd_same, List.take_succ, hy]
    rfl
theorem lk1 {f m : Str} {v : V} (h : (m == f) = false) : List.lookup m [(f, v)] = none := by
  simp [List.lookup, h]
theorem lk1s {f : Str} {v : V} : List.lookup f [(f, v)] = some v := by
  simp [List.lookup]
/-! ## xs == [] of any list; xs.count(y) of flat things; isinstance(t, tuple) -/
def rEqE (K : PySem.W.Frag) : R2 := fun x y H Q => ∃ a b xs, x = .ref a ∧ y = .ref b ∧ SqL K H a xs ∧ SqL K H b [] ∧ Q (.bl xs.isEmpty) H
theorem op_eqE {X : Cx} (hu : X.A.units < cLine) : OpR X (compareOp .Eq) (rEqE X.K) := by
  intro pins s σ H x y v u Q I rx ry h
  obtain ⟨a, b, xs, rfl, rfl, ha, hb, q⟩ := h
  obtain rfl : v = .ref a := rx
  obtain rfl : u = .ref b := ry
  obtain ⟨its, r1, p1, z1⟩ := I.list ha
  obtain ⟨jts, r2, p2, z2⟩ := I.list hb
  cases r2
  cases r1 with
  | nil => exact SeqAt.RcAt.lists (e := fun _ => true) p1.isList p2.isList rfl hu (fun j h1 _ => absurd h1 (by simp)) X.prog X.w _ _ ⟨.bl _, H, I, rfl, q⟩
  | cons r t => exact SeqAt.RcAt.lists_lengths p1.isList p2.isList (by simp) hu X.prog X.w _ _ ⟨.bl _, H, I, rfl, q⟩
theorem count_eqU {x : V} : ∀ {xs : List V} {us : List Value}, Vals xs us → xs.all flatV = true → us.countP (eqU x) = xs.countP fun y => eqV y x
  | _, _, .nil, _ => rfl
  | y :: xs, u :: us, .cons r t, f => by
    rw [List.all_cons, Bool.and_eq_true] at f
    rw [List.countP_cons, List.countP_cons, eqU_of r f.1, count_eqU t f.2]
def rCntF (K : PySem.W.Frag) : V → List V → Hp → VK → Prop := fun x xs H Q => ∃ (p : Addr) (ys : List V) (y : V), x = .ref p ∧ xs = [y] ∧ SqL K H p ys ∧ flatV y = true ∧ ys.all flatV = true ∧ Q (.int ((ys.countP fun z => eqV z y : Nat) : Int)) H
theorem mt_countF {X : Cx} : MtR X "list.count" (rCntF X.K) := by
  intro pins s σ H x xs v us Q I rx rxs h
  obtain ⟨p, ys, y, rfl, rfl, hs, fy, fys, q⟩ := h
  cases rx
  cases rxs with
  | cons ry rt =>
    rename_i uy ut
    cases rt
    obtain ⟨its, rv, ⟨⟨cls, dd, data, sl⟩, n, ho, hc, hdn, hd⟩, hlen⟩ := I.list hs
    simp only at hc hd
    subst hc hd
    refine call_meets PySem.F.slot_list_count ⟨_, ho, rfl⟩ PySem.F.entry_list_count (PySem.F.args_list_count_2 _ _)
      (SeqAt.list_countAt p its.toArray n dd sl uy (eqU y)) ⟨ho, fun w hw => mem_eqAt ry fy rv fys w (by simpa using hw), ?_⟩
    have ec : its.toArray.toList.countP (eqU y) = ys.countP fun z => eqV z y := by
      show its.countP (eqU y) = _
      exact count_eqU rv fys
    refine ⟨.int _, H, I.tok _, ⟨s.toks, ?_⟩, q⟩
    rw [ec]
def rIsTup (K : PySem.W.Frag) : List V → Hp → VK → Prop := fun xs H Q => ∃ a vs, xs = [.ref a, .ty "tuple"] ∧ H a = some (.tup vs) ∧ Q (.bl true) H
theorem call_isTup {X : Cx} : CallR X (.builtin "isinstance") (rIsTup X.K) := by
  intro pins s σ H xs us Q I r h
  obtain ⟨a, vs, rfl, ha, q⟩ := h
  exact call_isi pins s σ H _ us Q I r ⟨_, _, _, _, true, rfl, .ty "tuple", .base (.tup ha), kit_ty (by decide +kernel), q⟩
/-! ## slices of lists -/
theorem cutV_to (l : List V) (n : Nat) : cutV l none (some (n : Int)) = l.take n := by
  unfold cutV
  rw [HT.sIx_none, HT.sIx_nat, List.drop_zero, Nat.sub_zero]
  by_cases h : n ≤ l.length
  · rw [Nat.min_eq_left h]
  · rw [Nat.min_eq_right (by omega), List.take_of_length_le (Nat.le_refl _), List.take_of_length_le (by omega)]
theorem cutV_from (l : List V) (n : Nat) : cutV l (some (n : Int)) none = l.drop n := by
  unfold cutV
  rw [HT.sIx_none, HT.sIx_nat]
  by_cases h : n ≤ l.length
  · rw [Nat.min_eq_left h, List.take_of_length_le (by rw [List.length_drop]; omega)]
  · rw [Nat.min_eq_right (by omega), List.drop_of_length_le (Nat.le_refl _), List.drop_of_length_le (by omega)]
    simp
theorem cutV_last (l : List V) : cutV l none (some (-1)) = l.dropLast := by
  unfold cutV
  rw [HT.sIx_none, List.drop_zero, Nat.sub_zero, List.dropLast_eq_take]
  congr 1
  show (if (-1 : Int) < 0 then ((-1 : Int) + (l.length : Int)).toNat else min (-1 : Int).toNat l.length) = _
  rw [if_pos (by decide)]
  omega
theorem slL_to {K : PySem.W.Frag} {H : Hp} {a : Addr} {xs : List V} {i : Int} {Q : VK} (n : Nat) (e : i = (n : Int)) (h : SqL K H a xs) (k : ∀ p, H p = none → Q (.ref p) (upd H p (.lst (xs.take n)))) : rSlL K (.ref a) none (some i) H Q :=
  ⟨a, xs, rfl, h, fun p np => by rw [e, cutV_to]; exact k p np⟩
theorem slL_from {K : PySem.W.Frag} {H : Hp} {a : Addr} {xs : List V} {i : Int} {Q : VK} (n : Nat) (e : i = (n : Int)) (h : SqL K H a xs) (k : ∀ p, H p = none → Q (.ref p) (upd H p (.lst (xs.drop n)))) : rSlL K (.ref a) (some i) none H Q :=
  ⟨a, xs, rfl, h, fun p np => by rw [e, cutV_from]; exact k p np⟩
theorem slL_last {K : PySem.W.Frag} {H : Hp} {a : Addr} {xs : List V} {Q : VK} (h : SqL K H a xs) (k : ∀ p, H p = none → Q (.ref p) (upd H p (.lst xs.dropLast))) : rSlL K (.ref a) none (some (-1)) H Q :=
  ⟨a, xs, rfl, h, fun p np => by rw [cutV_last]; exact k p np⟩
end Ru

set_option Elab.async false
set_option linter.all false
set_option maxRecDepth 100000
set_option maxHeartbeats 2000000
/-! what is raised: defs that may raise, one's own classes of errors, a def that is asked while one is handled -/
namespace Ru
open PySem PySem.Spec PyProof.Rows L2

/-! ## defs that may raise -/
section
variable {P : Program} {w : World} {K : PySem.W.Frag} {mg : Str → Option Value} {base : Heap}
theorem fnAt_okX {x : Str} {st : Stmt} {N ps : List Str} {k : Nat} {sp : Sp} (D : DefAt K mg x st ps) (S : FnScope N ps (defScope st)) (len : ∀ vs H Q E, sp vs H Q E → vs.length = ps.length)
    (hbody : ∀ (f : Addr) (cdv : Value) (A : Around) (outer : List Env) (s : Shared) (H : Hp) (vs : List V) (Q : VK) (E : XK), Room k (A.deeper (envOfC x (defScope st) s.heap.objs.size f cdv)) → sp vs H Q E →
      ∃ t, PSs (cxOf (L2.CX P w) P w K mg base N x (defScope st) f cdv A outer s H E) (defBody st) t ∧ t { nx := fun _ H' => Q .non H', rt := Q } (start N vs) H) : FnAt P w K mg base (L2.CX P w) x (k + 1) ps sp := by
  obtain ⟨f, fd, h1, h2, h3⟩ := D.ex
  obtain ⟨oc, od, kV, doc, pm, an, cdv, ct, osl, e, lk, hcd⟩ := h2.ex
  subst e
  exact ⟨f, _, h1, h2.kp, h3, fn_of lk hcd S len fun A outer s H vs Q E hr hsp => hbody f cdv A outer s H vs Q E hr hsp⟩
theorem methAt_okX {C : Addr} {m qual : Str} {st : Stmt} {N ps : List Str} {k : Nat} {sp : Sp} (c : Cls K C) (D : MethAt K C m qual st ps) (S : FnScope N ps (defScope st)) (len : ∀ vs H Q E, sp vs H Q E → vs.length = ps.length)
    (hbody : ∀ (f : Addr) (cdv : Value) (A : Around) (outer : List Env) (s : Shared) (H : Hp) (vs : List V) (Q : VK) (E : XK), Room k (A.deeper (envOfC qual (defScope st) s.heap.objs.size f cdv)) → sp vs H Q E →
      ∃ t, PSs (cxOf (L2.CX P w) P w K mg base N qual (defScope st) f cdv A outer s H E) (defBody st) t ∧ t { nx := fun _ H' => Q .non H', rt := Q } (start N vs) H) :
    ∃ f fd, Cls K C ∧ Meth K C m f ∧ Binds K fd ps [] ∧ FnOk P w K mg base (L2.CX P w) (k + 1) f fd ps sp := by
  obtain ⟨f, fd, h1, h2, h3⟩ := D.ex
  obtain ⟨oc, od, kV, doc, pm, an, cdv, ct, osl, e, lk, hcd⟩ := h2.ex
  subst e
  exact ⟨f, _, c, h1, h3, fn_of lk hcd S len fun A outer s H vs Q E hr hsp => hbody f cdv A outer s H vs Q E hr hsp⟩
end
/-- what a callee lets out leaves the def, too -/
theorem passX {X : Cx} {E : XK} (tk : L2.Takes X fun cls d _ H => E cls d H) : Passes (L2.CX X.prog X.w) X E := L2.passes_call tk fun _ _ _ _ h => h
/-- around a try nothing is let out -/
theorem takesN {X : Cx} : L2.Takes X (fun _ _ _ _ => False) := fun _ _ x => by
  obtain ⟨_, _, _, _, _, _, _, _, _, _, _, _, _, _, _, _, z⟩ := x
  exact z.elim
section
variable {X : Cx} {W : WX} {j k : Nat} {ps : List Str} {sp : Sp} {x : Str} {p pos : Pos} {e : Expr} {es : List Expr} {t : TA}
/-- f(e, ..) within a try -/
theorem pe_callT (F : FnAt X.prog X.w X.K X.mg X.base (L2.CX X.prog X.w) x k ps sp) (hr : Room j X.A) (tk : L2.Takes X W) (ha : PA X (e :: es) t) (hj : k ≤ j := by decide) (hg : Gl X x := by rfl)
    (hdb : (x == ("__debug__" : Str)) = false := by decide) (he : starEach (e :: es) X.env = (false, eval e X.env) :: starEach es X.env := by rfl) (hpl : (backTo pos (starEach es X.env)).any (·.1) = false := by rfl) :
    PE X (.Call (.Name x p) (e :: es) [] pos) (tCallS sp (WE W) t) := by
  obtain ⟨f, fd, h1, h2, h3, h4⟩ := F.ex
  exact pe_callS h4 (hr.mono hj) hg h1 h2 h3 (fun σ => L2.passAt tk σ) ha hdb he hpl
end

/-! ## one's own classes of errors -/
/-- a class of errors called x, at C, over L, over ValueError -/
structure ExcAt (K : PySem.W.Frag) (mg : Str → Option Value) (x : Str) (C L : Addr) : Prop where
  gP : mg x = some (.ref C)
  xP : PySem.W.excIn K C [.type "ValueError", .type "Exception", .type "BaseException", .type "object"] "ValueError.__new__" = true
  kP : PySem.W.keepIn K (.ref C) = true
  is_ : ExcC K C
  tP : PySem.W.typeIn K (.ref C) = some (.type "type")
  mro : ∃ cd, PySem.W.clsIn K C = some cd ∧ cd.mro = [.ref C, .ref L, .type "ValueError", .type "Exception", .type "BaseException", .type "object"]
/-- the class over them -/
structure ErrAt (K : PySem.W.Frag) (mg : Str → Option Value) (x : Str) (L : Addr) : Prop where
  gP : mg x = some (.ref L)
  sub : PySem.W.subIn K (.ref L) (.type "BaseException") = some true
  tP : PySem.W.typeIn K (.ref L) = some (.type "type")
  hd : PySem.W.hasDictIn K L = true
theorem excAt_mk {K : PySem.W.Frag} {mg : Str → Option Value} {h : Heap} {x : Str} {C L : Addr} {cd : ClassData} (X : K.In h) (G : h.Ns mainGlobals mg) (a : PySem.W.nsIn K mainGlobals x = some (some (.ref C)))
    (b : PySem.W.excIn K C [.type "ValueError", .type "Exception", .type "BaseException", .type "object"] "ValueError.__new__" = true) (c : PySem.W.keepIn K (.ref C) = true)
    (d : PySem.W.findIn K (.ref C) "__getattribute__" = some (some (.builtin "BaseException.__getattribute__"))) (e : PySem.W.findIn K (.ref C) "__getattr__" = some none) (f : PySem.W.subIn K (.ref C) (.type "BaseException") = some true) (g : PySem.W.hasDictIn K C = true)
    (i : PySem.W.findIn K (.ref C) "__class__" = some (some (.builtin "object.__class__"))) (j : PySem.W.specialIn K (.builtin "object.__class__") "__get__" = some (some (.builtin "getset_descriptor.__get__"))) (k : PySem.W.takesIn K (.builtin "object.__class__") = some true)
    (l : PySem.W.mroIn K C (.type "object") = some true) (m : PySem.W.typeIn K (.ref C) = some (.type "type")) (n : PySem.W.clsIn K C = some cd) (o : cd.mro = [.ref C, .ref L, .type "ValueError", .type "Exception", .type "BaseException", .type "object"]) : ExcAt K mg x C L :=
  ⟨PySem.W.mg_of X G a, b, c, ⟨d, e, f, g, i, j, k, l⟩, m, cd, n, o⟩
theorem errAt_mk {K : PySem.W.Frag} {mg : Str → Option Value} {h : Heap} {x : Str} {L : Addr} (X : K.In h) (G : h.Ns mainGlobals mg) (a : PySem.W.nsIn K mainGlobals x = some (some (.ref L)))
    (b : PySem.W.subIn K (.ref L) (.type "BaseException") = some true) (c : PySem.W.typeIn K (.ref L) = some (.type "type")) (d : PySem.W.hasDictIn K L = true) : ErrAt K mg x L := ⟨PySem.W.mg_of X G a, b, c, d⟩
section
variable {K : PySem.W.Frag} {mg mg' : Str → Option Value} {x y : Str} {C D L M : Addr}
theorem ExcAt.subs (T : ExcAt K mg x C L) (v : Value) : PySem.W.subIn K (.ref C) v = some ([.ref C, .ref L, .type "ValueError", .type "Exception", .type "BaseException", .type "object"].contains v) := by
  obtain ⟨cd, h1, h2⟩ := T.mro
  show PySem.W.mroIn K C v = _
  unfold PySem.W.mroIn
  rw [h1, Option.bind_some, h2]
  rfl
theorem ExcAt.caught (T : ExcAt K mg x C L) (E : ErrAt K mg' y L) : PySem.W.exmOne K (.ref C) (.ref L) = some true := by
  refine PySem.W.exm_ref E.sub E.hd E.tP ?_
  rw [T.subs]
  congr 1
  simp
/-- isinstance(e, D) of an error of class C -/
theorem ExcAt.kit (T : ExcAt K mg x C L) (U : ExcAt K mg' y D L) (nl : C ≠ L ∧ D ≠ L) : PySem.W.kitOne K (.ref C) (.ref D) = some (decide (C = D)) := by
  obtain ⟨cd, h1, h2⟩ := U.mro
  unfold PySem.W.kitOne
  by_cases h : C = D
  · rw [if_pos (by rw [h]; exact beq_self_eq_true _), decide_eq_true h]
  · rw [if_neg (by rw [beq_iff_eq]; intro q; exact h (Value.ref.inj q)), decide_eq_false h]
    show (if ((PySem.W.clsIn K D).isSome && PySem.W.typeIn K (.ref D) == some (.type "type")) = true then PySem.W.subIn K (.ref C) (.ref D) else none) = _
    rw [h1, U.tP, if_pos (show ((some cd).isSome && some (Value.type "type") == some (Value.type "type")) = true from rfl), T.subs]
    congr 1
    have e1 : (Value.ref D == Value.ref C) = false := by
      rw [beq_eq_false_iff_ne]
      intro q
      exact h (Value.ref.inj q).symm
    have e2 : (Value.ref D == Value.ref L) = false := by
      rw [beq_eq_false_iff_ne]
      intro q
      exact nl.2 (Value.ref.inj q)
    rw [List.contains_cons, e1, List.contains_cons, e2]
    rfl
theorem ExcAt.kitV (T : ExcAt K mg x C L) : PySem.W.kitOne K (.ref C) (.type "ValueError") = some true := by
  unfold PySem.W.kitOne
  rw [if_neg (by rw [beq_iff_eq]; intro q; cases q)]
  show (if PySem.W.kitMeta "ValueError" = true then PySem.W.subIn K (.ref C) (.type "ValueError") else none) = _
  rw [if_pos (by decide +kernel), T.subs]
  congr 1
end
section
variable {X : Cx} {W : WX} {C L : Addr} {x m : Str} {j : Nat} {p p2 pos pos' : Pos}
/-- raise C('m') -/
theorem ps_raiseO (hc : X.calm = true) (T : ExcAt X.K X.mg x C L) (tk : L2.Takes X W) (hg : Gl X x := by rfl) (hdb : (x == ("__debug__" : Str)) = false := by decide) :
    PS X (.Raise (some (.Call (.Name x p) [.Constant (.str m) j p2] [] pos)) none pos') (fun _ σ H => W (.ref C) none σ H) :=
  L2.ps_raise hc tk (L2.pmk_own PySem.F.excBase_ValueError T.xP T.gP T.kP (raises_own T.is_.hs T.tP) hg hdb)
end

/-! ## a def that is asked of the error that is handled -/
/-- the promise of a def that bears the handled error's object p among its arguments -/
structure FnP (P : Program) (w : World) (K : PySem.W.Frag) (mg : Str → Option Value) (base : Heap) (CX : CXT) (k : Nat) (f : Addr) (fd : FuncData) (ps : List Str) (sp : Addr → Value → Option Addr → Sp) : Prop where
  len : ∀ a c d vs H Q E, sp a c d vs H Q E → vs.length = ps.length
  run : ∀ (A : Around) (outer : List Env) (s : Shared) (H : Hp) (args : Args) (us : List Value) (vs : List V) (Q : VK) (E : XK) (p : Addr × Obj) (c : Value) (d : Option Addr), Zc c d p.2 → (∃ vs, p.2.data = .fields vs) → L2H.RoomH k A → L2H.PinOk outer H s p → Env0 P w K mg base A outer s H → BindsTo s fd args (ps.zip us) → Vals vs us → sp p.1 c d vs H Q E →
    codeAny (model P w) A (.call (.ref f) args) (CR CX outer P w H s Q E) s
structure FnPAt (P : Program) (w : World) (K : PySem.W.Frag) (mg : Str → Option Value) (base : Heap) (cx : CXT) (x : Str) (k : Nat) (ps : List Str) (sp : Addr → Value → Option Addr → Sp) : Prop where
  ex : ∃ f fd, mg x = some (.ref f) ∧ PySem.W.keepIn K (.ref f) = true ∧ Binds K fd ps [] ∧ FnP P w K mg base cx k f fd ps sp
theorem fnPAt_ok {P : Program} {w : World} {K : PySem.W.Frag} {mg : Str → Option Value} {base : Heap} {x : Str} {st : Stmt} {N ps : List Str} {k : Nat} {sp : Addr → Value → Option Addr → Sp} (D : DefAt K mg x st ps) (S : FnScope N ps (defScope st)) (len : ∀ a c d vs H Q E, sp a c d vs H Q E → vs.length = ps.length)
    (hbody : ∀ (f : Addr) (cdv : Value) (A : Around) (outer : List Env) (s : Shared) (H : Hp) (vs : List V) (Q : VK) (E : XK) (p : Addr × Obj) (c : Value) (d : Option Addr), Zc c d p.2 → (∃ vs, p.2.data = .fields vs) → L2H.RoomH k (A.deeper (envOfC x (defScope st) s.heap.objs.size f cdv)) → sp p.1 c d vs H Q E →
      ∃ t, PSs (L2H.cxH CX0 P w K mg base N x (defScope st) f cdv A outer s H E p).nox (defBody st) t ∧ t { nx := fun _ H' => Q .non H', rt := Q } (start N vs) H) : FnPAt P w K mg base CX0 x (k + 1) ps sp := by
  obtain ⟨f, fd, h1, h2, h3⟩ := D.ex
  obtain ⟨oc, od, kV, doc, pm, an, cdv, ct, osl, e, lk, hcd⟩ := h2.ex
  subst e
  refine ⟨f, _, h1, h2.kp, h3, len, fun A outer s H args us vs Q E p cl d hz hf hr hpin e0 hb r hsp => ?_⟩
  have there : K.In s.heap := e0.mod.kin.keeps fun b o z => (e0.bs b o z).1
  have seen : ∀ y ∈ ps.zip us, (defScope st).names.lookup y.1 = some .local ∨ ((defScope st).names.lookup y.1 = some .cell ∧ ((cellsFrom (s.heap.objs.size + 1) (defScope st).names []).lookup y.1).isSome = true) := fun y hy =>
    (S.par y.1 (List.of_mem_zip hy).1).imp id fun q => ⟨q, PySem.W.cellsFrom_some _ _ _ (.inl q)⟩
  refine codeAny_call_function hr.depth (there _ _ lk) rfl S.co S.gen rfl (PySem.W.codeRec_of there hcd) (hb _ _ _ _ (wpAny_newFunctionEnv_cells S.kind seen fun env he s1 y => ?_))
  subst he
  have lim : s.heap.NoLimit := e0.mod.nolimit.keeps fun b o z => (e0.bs b o z).1
  refine ⟨lim.keeps y.toInCall.keep, codeAny_func ?_⟩
  obtain ⟨t, ht, hq⟩ := hbody f cdv A outer s H vs Q E p cl d hz hf (hr.deeper _) hsp
  refine wpAny_mono (ht.nox.run [] s1 (L2.start N vs) H _ (L2H.inv_startH S hpin e0 (len _ _ _ _ _ _ _ hsp) r y) hq) (fun fl s' hs => ?_) fun e s' hs => hs
  match fl, hs with
  | .ret u, ⟨v, _, H', J, rv, q⟩ => exact ⟨v, H', J.os, J.bare, J.base, J.hok, rv, q⟩
  | .next, ⟨_, H', J, q⟩ => exact ⟨.non, H', J.os, J.bare, J.base, J.hok, rfl, q⟩
  | .brk, ⟨_, _, _, q⟩ => exact False.elim q
  | .cont, ⟨_, _, _, q⟩ => exact False.elim q
/-- f(e, ..) in an except suite -/
theorem pe_callP {X : Cx} {a : Addr} {oe : Obj} {pn : List (Addr × Obj)} {j k : Nat} {x : Str} {ps : List Str} {sp : Addr → Value → Option Addr → Sp} {cls : Value} {d : Option Addr} {q pos : Pos} {e : Expr} {es : List Expr} {t : TA} (F : FnPAt X.prog X.w X.K X.mg X.base CX0 x k ps sp) (hz : Zc cls d oe) (hf : ∃ vs, oe.data = .fields vs) (hr : Room j X.A)
    (ha : PA (X.suite a ((a, oe) :: pn)) (e :: es) t) (hj : k ≤ j := by decide) (hg : Gl X x := by rfl)
    (hdb : (x == ("__debug__" : Str)) = false := by decide) (he : starEach (e :: es) X.env = (false, eval e X.env) :: starEach es X.env := by rfl) (hpl : (backTo pos (starEach es X.env)).any (·.1) = false := by rfl) :
    PE (X.suite a ((a, oe) :: pn)) (.Call (.Name x q) (e :: es) [] pos) (tCall (sp a cls d) [] E0 t) := by
  obtain ⟨f, fd, h1, h2, h3, h4⟩ := F.ex
  have room0 := (L2H.roomH_of hr).mono hj
  have room : L2H.RoomH k (X.suite a ((a, oe) :: pn)).A := ⟨room0.dp, room0.un⟩
  refine ⟨fun pins s σ H Q I h => wpAny_Call_Name_kw (ld_glob I hg h1 (PySem.W.callWith_K (h₀ := X.base) I.ok.mod.kin h2 (thn (ha.run pos pins s σ H _ I h) fun us s1 ⟨vs, H1, I1, r, z⟩ => ⟨I1.kIn, ?_⟩) he hpl) hdb)⟩
  have z : sp a cls d (vs ++ []) H1 Q E0 := z
  rw [List.append_nil] at z
  have b := h3 s1 us I1.kIn (by rw [List.append_nil, ← r.length]; exact h4.len _ _ _ _ _ _ _ z)
  rw [List.append_nil] at b
  obtain ⟨g1, g2, g3, g4, g5⟩ := I1.pin (a, oe) (List.mem_append_left _ List.mem_cons_self)
  refine wpAny_call (codeAny_mono (h4.run _ (X.suite a ((a, oe) :: pn)).stack s1 H1 ⟨us, []⟩ us vs Q E0 (a, oe) cls d hz hf room ⟨g1, g2, fun hm => (List.mem_cons.mp (I1.stkSub a hm)).elim g3 g4, g5⟩ I1.env0 b r z) fun r s' hq => ?_)
  match r, hq with
  | .error e, hq => exact False.elim hq
  | .ok (.ret u), hq => exact I1.after hq
  | .ok .next, hq => exact False.elim hq
  | .ok .brk, hq => exact False.elim hq
  | .ok .cont, hq => exact False.elim hq
/-- isinstance(e, c) in such a def, p's object an error of class C -/
def rIsP (K : PySem.W.Frag) (C : Addr) (p : Addr × Obj) : List V → Hp → VK → Prop := fun xs H Q => ∃ (c : V) (cv : Value) (b : Bool), xs = [.ref p.1, c] ∧ (∀ u, RelV c u → u = cv) ∧ PySem.W.kitOne K (.ref C) cv = some b ∧ Q (.bl b) H
/-- of some classes -/
def rIsPT (K : PySem.W.Frag) (C : Addr) (p : Addr × Obj) : List V → Hp → VK → Prop := fun xs H Q => ∃ (tp : Addr) (cs : List V) (us : List Value) (b : Bool), xs = [.ref p.1, .ref tp] ∧ H tp = some (.tup cs) ∧ Paired ClsV cs us ∧ PySem.W.kitAny K (.ref C) us = some b ∧ Q (.bl b) H
theorem instAt_of {h : Heap} {a D : Addr} {oe : Obj} (g : h.get? a = some oe) (hz : Zc (.ref D) none oe) (hf : ∃ vs, oe.data = .fields vs) : PySem.W.InstAt h a oe D none := by
  obtain ⟨vs, hv⟩ := hf
  refine ⟨g, hz.1, ?_, ?_⟩
  · unfold PySem.W.notCls
    rw [hv]
  · rw [hz.2]
    trivial
section
variable {X : Cx} {C : Addr} {p : Addr × Obj}
theorem call_isP (T : ExcC X.K C) (hz : Zc (.ref C) none p.2) (hf : ∃ vs, p.2.data = .fields vs) (hp : p ∈ X.pn) : CallR X (.builtin "isinstance") (rIsP X.K C p) := by
  intro pins s σ H xs us Q I r h
  obtain ⟨c, cv, b, rfl, hcv, e, q⟩ := h
  obtain ⟨u, w', rfl, ru, rw'⟩ := vals2 r
  cases (show u = Value.ref p.1 from ru)
  have ec := hcv _ rw'
  subst ec
  exact PySem.W.kia_one (PySem.W.handS_kitx_exc T.hg T.hk T.hs T.hd T.ha T.hn T.ht T.hm) I.kIn (instAt_of (I.pin p (List.mem_append_left _ hp)).1 hz hf) e (fun z => nomatch z) fun tk => ⟨.bl b, H, I.tok tk, rfl, q⟩
theorem call_isPT (T : ExcC X.K C) (hz : Zc (.ref C) none p.2) (hf : ∃ vs, p.2.data = .fields vs) (hp : p ∈ X.pn) : CallR X (.builtin "isinstance") (rIsPT X.K C p) := by
  intro pins s σ H xs us Q I r h
  obtain ⟨tp, cs, ws, b, rfl, hT, k, e, q⟩ := h
  obtain ⟨u, w', rfl, ru, rw'⟩ := vals2 r
  cases (show u = Value.ref p.1 from ru)
  cases (show w' = Value.ref tp from rw')
  obtain ⟨_, its, rv, o, h1, h2, n, h3⟩ := (show ObjOk X.prog X.w H s.heap tp (.tup cs) from I.hok tp _ hT)
  have e3 := ClsV.all k rv
  subst e3
  obtain ⟨oc, od, dt, sl⟩ := o
  simp only at h2 h3
  subst h2 h3
  exact PySem.W.kia_tup (PySem.W.handS_kitx_exc T.hg T.hk T.hs T.hd T.ha T.hn T.ht T.hm) I.kIn (instAt_of (I.pin p (List.mem_append_left _ hp)).1 hz hf) h1 e (fun z => nomatch z) fun tk => ⟨.bl b, H, I.tok tk, rfl, q⟩
end
/-- a class of errors as a value -/
theorem pe_exc {X : Cx} {x : Str} {C L : Addr} {pos : Pos} (h : ExcAt X.K X.mg x C L) (hg : Gl X x := by rfl) (hd : (x == ("__debug__" : Str)) = false := by decide) : PE X (.Name x pos) (tC (.ref C)) := pe_glob hg h.gP rfl hd
/-! ## t[::-1] of a tuple -/
theorem pick_rev (xs : Array Value) : ((List.range xs.size).filterMap fun (m : Nat) => xs[(((xs.size : Int) - 1) + (m : Int) * (-1)).toNat]?).toArray = xs.toList.reverse.toArray := by
  congr 1
  have e : ∀ m ∈ List.range xs.size, xs[(((xs.size : Int) - 1) + (m : Int) * (-1)).toNat]? = xs[xs.size - 1 - m]? := by
    intro m hm
    have := List.mem_range.mp hm
    congr 1
    omega
  have cong : ∀ (l : List Nat) (f g : Nat → Option Value), (∀ m ∈ l, f m = g m) → l.filterMap f = l.filterMap g := by
    intro l f g
    induction l with
    | nil => intro _; rfl
    | cons a r ih =>
      intro h
      rw [List.filterMap_cons, List.filterMap_cons, h a List.mem_cons_self, ih fun m hm => h m (List.mem_cons_of_mem _ hm)]
  rw [cong _ _ _ e]
  have e2 : (List.range xs.size).filterMap (fun m => xs[xs.size - 1 - m]?) = ((List.range xs.size).map fun k => xs.size - 1 - k).filterMap (xs[·]?) := by
    rw [List.filterMap_map]
    rfl
  rw [e2, PySem.W.krv_range, List.filterMap_reverse, PySem.W.krv_all]
section
variable {prog : Program} {w : World} {A : Around} {E : Value → Shared → Prop} {s : Shared}
theorem sliceApplied_rev {sl : Addr} {vs : Value} {n : Nat} {Q : Int × Int × Nat → Shared → Prop} (hs : s.heap.IsSliceOf sl .none .none vs) (ps : IsPart vs (some (-1))) (h : Q ((n : Int) - 1, -1, n) s) :
    wpAny (model prog w) A (Builtin.Slice.sliceApplied (.ref sl) (pure (n : Int))) Q E s := by
  obtain ⟨os, hos, hcs, hds⟩ := id hs
  unfold Builtin.Slice.sliceApplied Builtin.Slice.sliceFields
  refine wpAny_bind (wpAny_bind (wpAny_field hos hds (x := .none) rfl (wpAny_bind (wpAny_field hos hds (x := .none) rfl (wpAny_bind (wpAny_field hos hds (x := vs) rfl (wpAny_pure ?_)))))))
  refine wpAny_bind (HT.slicePart_ ps ?_)
  show wpAny _ _ (if ((-1 : Int) == 0) = true then _ else _) _ _ s
  rw [if_neg (by decide)]
  refine wpAny_bind (HT.slicePart_ .none (wpAny_bind (HT.slicePart_ .none (wpAny_bind (wpAny_pure ?_)))))
  have e : Builtin.Slice.slicePlaces ((n : Int) - 1) (-1) (-1) = n := by
    unfold Builtin.Slice.slicePlaces
    rw [if_neg (by decide)]
    by_cases hn : (n : Int) - 1 > -1
    · rw [if_pos hn, show (- -1 : Int) = 1 by decide, Int.ediv_one]
      omega
    · rw [if_neg hn]
      omega
  show wpAny _ _ (pure ((n : Int) - 1, (-1 : Int), Builtin.Slice.slicePlaces ((n : Int) - 1) (-1) (-1))) _ _ s
  rw [e]
  exact wpAny_pure h
theorem getItem_tuple_rev {t sl : Addr} {items : Array Value} {vs : Value} {Q : Value → Shared → Prop} (ht : IsTup s.heap t items) (hs : s.heap.IsSliceOf sl .none .none vs) (ps : IsPart vs (some (-1)))
    (h : Q (.ref s.heap.objs.size) { s with heap := s.heap.push { cls := .type "tuple", data := .seq items.toList.reverse.toArray } }) (hsz : items.size ≤ sizeLine) : wpAny (model prog w) A (getItem (.ref t) (.ref sl)) Q E s := by
  have room : sizeOk (.seq items.toList.reverse.toArray) := by
    show items.toList.reverse.toArray.size ≤ sizeLine
    rw [List.size_toArray, List.length_reverse, Array.length_toList]
    exact hsz
  obtain ⟨os, hos, hcs, hds⟩ := id hs
  have hTs : s.TypeIs (.ref sl) "slice" := ⟨os, hos, hcs⟩
  unfold getItem
  try with_reducible refine wpAny_holding ?_
  first | refine wpAny_bind (wpAny_pure ?_) | skip
  refine wpAny_bind (wpAny_sequenceKey ht.typeIs (by decide) ?_)
  refine wpAny_bind (wpAny_callSpecial?_slot (name := Str.ofString "__getitem__") ht.typeIs PyProof.Rows.slot_tuple_getitem
    (wpAny_call_entry PyProof.Rows.slot_tuple_getitem ht.typeIs entry_tuple_getitem ?_ (args_tuple_getitem _ _)))
  show wpAny _ _ (Builtin.Tuple.tupleItemsOf (.ref t) >>= _) _ _ s
  refine wpAny_bind (tupleItemsOf_ ht ?_)
  refine wpAny_bind (wpAny_typeOf hTs ?_)
  rw [if_pos (by decide)]
  refine wpAny_bind (sliceApplied_rev hs ps ?_)
  show wpAny _ _ (if ((items.size : Int) - 1 == 0 && (-1 : Int) == 1 && items.size == items.size) = true then _ else _) _ _ s
  rw [if_neg (by rw [show ((-1 : Int) == 1) = false from rfl, Bool.and_false, Bool.false_and]; exact Bool.false_ne_true), pick_rev]
  first
    | exact wpAny_bind (m := Builtin.Tuple.tupleExact _) (wpAny_newObj_type (wpAny_pure ⟨_, rfl, wpAny_pure h⟩) room)
    | exact wpAny_bind (m := Builtin.Tuple.tupleExact _) (wpAny_newObj_type (wpAny_bind (wpAny_pure (wpAny_pure ⟨_, rfl, wpAny_pure h⟩))) room)
    | exact wpAny_bind (wpAny_bind (m := Builtin.Tuple.tupleExact _) (wpAny_newObj_type (wpAny_pure (wpAny_pure ⟨_, rfl, wpAny_pure h⟩)) room))
    | exact wpAny_bind (wpAny_bind (m := Builtin.Tuple.tupleExact _) (wpAny_newObj_type (wpAny_pure ⟨_, rfl, wpAny_pure h⟩) room))
end
def tRevT (K : PySem.W.Frag) (te : TE) : TE := fun σ H Q => te σ H fun x H1 => ∃ a xs, x = .ref a ∧ SqT K H1 a xs ∧ ∀ p, H1 p = none → Q (.ref p) (upd H1 p (.tup xs.reverse))
theorem pe_revT {X : Cx} {e : Expr} {te : TE} {k : Nat} {p1 p2 p3 pos : Pos} (he : PE X e te) : PE X (.Subscript e (.Slice none none (some (.UnaryOp .USub (.Constant (.int 1) k p1) p2)) p3) pos) (tRevT X.K te) := by
  refine ⟨fun pins s σ H Q I h => ?_⟩
  refine Subscript_ (thn (he.run pins s σ H _ I h) fun v s1 ⟨x, H1, I1, r1, a, xs, ex, hx, q⟩ => ?_)
  subst ex
  cases r1
  have hst : PO X (some (.UnaryOp .USub (.Constant (.int 1) k p1) p2)) (tPart (tUn (rU fun i => .int (-i)) (tC (.int 1)))) := po_some (pe_un un_neg pe_int)
  refine wpAny_Slice ?_
  rw [evalPart_none]
  refine wpAny_pure ?_
  refine wpAny_pure ?_
  refine thn (hst.run pins s1 σ H1 (fun o H4 => o = some (-1) ∧ H4 = H1) I1 ⟨1, rfl, -1, rfl, rfl, rfl⟩) fun vs s4 ⟨o, H4, I4, ps, eo, e4⟩ => ?_
  subst eo e4
  have I5 : Inv X pins σ H4 { s4 with heap := s4.heap.push { cls := .type "slice", data := .fields #[.none, .none, vs] } } := I4.kept (t' := s4.toks) fun b ob q => Heap.get?_push_of_some _ q
  obtain ⟨its, r, ht, hz⟩ := I5.tuple hx
  have hlen := r.length
  show wpAny (model X.prog X.w) X.A (subscriptTail e (.Slice none none (some (.UnaryOp .USub (.Constant (.int 1) k p1) p2)) p3) (.ref a) (.ref s4.heap.objs.size)) (EP X pins σ Q) X.xe { s4 with heap := s4.heap.push { cls := .type "slice", data := .fields #[.none, .none, vs] } }
  refine tail_any (ops := [.ref a, .ref s4.heap.objs.size]) ht.typeIs PyProof.Rows.slot_tuple_getitem.lookup ?_ (by with_unfolding_all rfl)
  refine getItem_tuple_rev ht (Heap.IsSliceOf.new _ .none .none vs) ps ?_ (by rw [List.size_toArray]; omega)
  refine ⟨.ref _, _, I5.laid (t' := s4.toks) (o := .tup xs.reverse) (fun b ob q => Heap.get?_push_of_some _ q) (Nat.le_refl _) ?_, rfl, q _ (I5.hok.fresh (Nat.le_refl _))⟩
  exact ⟨by rw [List.length_reverse]; exact hz, _, by simpa using r.reverse, IsTup.new _ _⟩

/-! ## C.m(o, ..): a def of a class, read off the class itself -/
structure ClsFnAt (K : PySem.W.Frag) (C : Addr) (m qual : Str) (st : Stmt) (ps : List Str) : Prop where
  ex : ∃ f fd, PySem.W.readsIn K C (.type "type") = true ∧ PySem.W.specialIn K (.ref C) "__getattribute__" = some (some (.builtin "type.__getattribute__")) ∧ PySem.W.findCls K (.ref C) (.type "type") m = some (.val (.ref f)) ∧ Fun K m qual st f fd ∧ Binds K fd ps []
theorem clsFnAt_mk {K : PySem.W.Frag} {C : Addr} {m qual : Str} {st : Stmt} {ps : List Str} {f : Addr} {oc : Value} {od an : Option Addr} {osl : Array (Option Value)} {kV doc pm cdv ct : Value}
    (r : PySem.W.readsIn K C (.type "type") = true) (g : PySem.W.specialIn K (.ref C) "__getattribute__" = some (some (.builtin "type.__getattribute__"))) (a : PySem.W.findCls K (.ref C) (.type "type") m = some (.val (.ref f)))
    (l : K.lookup f = some ⟨oc, od, .func (PySem.W.fnOf m qual (defArgs st) (defBody st) (defScope st) .none kV doc pm an cdv ct), osl⟩)
    (c : PySem.W.codeIn K cdv qual = true) (k : PySem.W.keepIn K (.ref f) = true)
    (b : ∀ us : List Value, us.length = ps.length → bindArgs (PySem.W.fnOf m qual (defArgs st) (defBody st) (defScope st) .none kV doc pm an cdv ct) ⟨us, []⟩ = pure (ps.zip us)) : ClsFnAt K C m qual st ps :=
  ⟨f, _, r, g, a, fun_mk l c k, .all b⟩
/-- the promise of a def that is read off the class C -/
structure ClsFn (P : Program) (w : World) (K : PySem.W.Frag) (mg : Str → Option Value) (base : Heap) (cx : CXT) (C : Addr) (m : Str) (k : Nat) (ps : List Str) (sp : Sp) : Prop where
  ex : ∃ f fd, PySem.W.readsIn K C (.type "type") = true ∧ PySem.W.specialIn K (.ref C) "__getattribute__" = some (some (.builtin "type.__getattribute__")) ∧ PySem.W.findCls K (.ref C) (.type "type") m = some (.val (.ref f)) ∧ PySem.W.keepIn K (.ref f) = true ∧ Binds K fd ps [] ∧ FnOk P w K mg base cx k f fd ps sp
theorem clsFn_okX {P : Program} {w : World} {K : PySem.W.Frag} {mg : Str → Option Value} {base : Heap} {C : Addr} {m qual : Str} {st : Stmt} {N ps : List Str} {k : Nat} {sp : Sp} (D : ClsFnAt K C m qual st ps) (S : FnScope N ps (defScope st)) (len : ∀ vs H Q E, sp vs H Q E → vs.length = ps.length)
    (hbody : ∀ (f : Addr) (cdv : Value) (A : Around) (outer : List Env) (s : Shared) (H : Hp) (vs : List V) (Q : VK) (E : XK), Room k (A.deeper (envOfC qual (defScope st) s.heap.objs.size f cdv)) → sp vs H Q E →
      ∃ t, PSs (cxOf (L2.CX P w) P w K mg base N qual (defScope st) f cdv A outer s H E) (defBody st) t ∧ t { nx := fun _ H' => Q .non H', rt := Q } (start N vs) H) :
    ClsFn P w K mg base (L2.CX P w) C m (k + 1) ps sp := by
  obtain ⟨f, fd, h1, h2, h3, h4, h5⟩ := D.ex
  obtain ⟨oc, od, kV, doc, pm, an, cdv, ct, osl, e, lk, hcd⟩ := h4.ex
  subst e
  exact ⟨f, _, h1, h2, h3, h4.kp, h5, fn_of lk hcd S len fun A outer s H vs Q E hr hsp => hbody f cdv A outer s H vs Q E hr hsp⟩
theorem pe_clsF {X : Cx} {cx : CXT} {j k : Nat} {C : Addr} {ps : List Str} {sp : Sp} {E : XK} {m : Str} {pos apos : Pos} {e o : Expr} {es : List Expr} {t : TA} {pl : Sem Bool} (F : ClsFn X.prog X.w X.K X.mg X.base cx C m k ps sp) (hr : Room j X.A) (hx : Passes cx X E) (he : PE X o (tC (.ref C))) (ha : PA X (e :: es) t) (hj : k ≤ j := by decide)
    (hst : starEach (e :: es) X.env = (false, eval e X.env) :: starEach es X.env := by rfl) (hpl : (backTo pos (starEach es X.env)).any (·.1) = false := by rfl)
    (ht : eval (.Call (.Attribute o m apos) (e :: es) [] pos) X.env = (do
      let ov ← eval o X.env
      standAt apos.atName
      let (f, first) ← holding [ov] (getMethod ov m pl)
      callWith pos f first (backTo pos (starEach (e :: es) X.env)) (backToKw pos (keywordEach [] X.env))) := by rfl) :
    PE X (.Call (.Attribute o m apos) (e :: es) [] pos) (tCall sp [] E t) := by
  obtain ⟨f, fd, h1, h2, h3, h4, h5, h6⟩ := F.ex
  refine ⟨fun pins s σ H Q I h => ?_⟩
  refine PySem.W.methodCall_KW (pl := pl) (thn (he.run pins s σ H (fun x H1 => x = .ref C ∧ H1 = H) I ⟨rfl, rfl⟩) fun u s1 ⟨x, H1, I1, rx, ex, eh⟩ => ?_) ht
  subst ex eh
  obtain rfl : u = Value.ref C := rx
  refine PySem.W.method_cls I1.kIn h2 (PySem.W.cls_value I1.kIn h1 h3 rfl ?_)
  have I2 := I1.tok (s1.toks + 1)
  refine PySem.W.callWith_K (first := []) (h₀ := X.base) I.ok.mod.kin h4 (thn (ha.run pos pins _ σ H1 _ I2 h) fun us s2 ⟨vs, H2, I3, r, q2⟩ => ⟨I3.kIn, ?_⟩) hst hpl
  exact run_fn (us := us) (vs := vs) (dvs := []) (ds := []) h6 (hr.mono hj) h5 .nil hx I3 r q2

/-! ## what lets nothing out is calm -/
section
variable {P : Program} {w : World} {K : PySem.W.Frag} {mg : Str → Option Value} {base : Heap} {k : Nat} {ps : List Str} {sp : Sp}
theorem fnOk_calm {f : Addr} {fd : FuncData} (F : FnOk P w K mg base (L2.CX P w) k f fd ps sp) : FnOk P w K mg base CX0 k f fd ps (fun vs H Q _ => sp vs H Q E0) := by
  refine ⟨fun vs H Q E h => F.len vs H Q E0 h, fun A outer s H args us vs Q E hr e0 hb r h => ?_⟩
  refine codeAny_mono (F.run A outer s H args us vs Q E0 hr e0 hb r h) fun r s' z => ?_
  match r, z with
  | .error e, z =>
    obtain ⟨_, _, _, _, _, _, _, _, _, _, _, _, z⟩ := z
    exact z.elim
  | .ok (.ret u), z => exact z
  | .ok .next, z => exact z
  | .ok .brk, z => exact z
  | .ok .cont, z => exact z
theorem FnAt.calm {x : Str} (F : FnAt P w K mg base (L2.CX P w) x k ps sp) : FnAt P w K mg base CX0 x k ps (fun vs H Q _ => sp vs H Q E0) := by
  obtain ⟨f, fd, h1, h2, h3, h4⟩ := F.ex
  exact ⟨f, fd, h1, h2, h3, fnOk_calm h4⟩
theorem MakAt.calm {x : Str} {C : Addr} (F : MakAt P w K mg base (L2.CX P w) x C k ps sp) : MakAt P w K mg base CX0 x C k ps (fun vs H Q _ => sp vs H Q E0) := by
  obtain ⟨f, fd, h1, h2, h3, h4⟩ := F.ex
  exact ⟨f, fd, h1, h2, h3, fnOk_calm h4⟩
end
theorem DispAt.calm {P : Program} {w : World} {K : PySem.W.Frag} {mg : Str → Option Value} {base : Heap} {k : Nat} {ps : List Str} {T : Addr → Prop} {m : Str} {sp : Addr → Sp} (F : DispAt P w K mg base (L2.CX P w) T m k ps sp) : DispAt P w K mg base CX0 T m k ps (fun C vs H Q _ => sp C vs H Q E0) :=
  ⟨fun C t => let ⟨f, fd, h1, h2, h3, h4⟩ := F.ex C t; ⟨f, fd, h1, h2, h3, fnOk_calm h4⟩⟩
theorem call_isStr {X : Cx} : CallR X (.builtin "isinstance") (rIsF "str" isStrV) :=
  call_isF (by decide +kernel) (fun _ => (by decide +kernel : kitB "bool" "str" = some false)) (fun _ => (by decide +kernel : kitB "int" "str" = some false)) fun _ => (by decide +kernel : kitB "str" "str" = some true)
/-! ## two lists, one by the other -/
inductive Two {α : Type} (R : V → α → Prop) : List V → List α → Prop
  | nil : Two R [] []
  | cons {v : V} {vs : List V} {c : α} {cs : List α} (h : R v c) (t : Two R vs cs) : Two R (v :: vs) (c :: cs)
section
variable {α : Type} {R S : V → α → Prop}
theorem Two.mono (k : ∀ v c, R v c → S v c) : ∀ {vs : List V} {cs : List α}, Two R vs cs → Two S vs cs
  | _, _, .nil => .nil
  | _, _, .cons h t => .cons (k _ _ h) (t.mono k)
theorem Two.length : ∀ {vs : List V} {cs : List α}, Two R vs cs → vs.length = cs.length
  | _, _, .nil => rfl
  | _, _, .cons _ t => by rw [List.length_cons, List.length_cons, t.length]
theorem Two.at : ∀ {vs : List V} {cs : List α} {i : Nat} {v : V}, Two R vs cs → vs[i]? = some v → ∃ c, cs[i]? = some c ∧ R v c
  | _, _, i, v, .nil, h => by simp at h
  | _, _, 0, v, .cons p t, h => by
    simp at h
    subst h
    exact ⟨_, rfl, p⟩
  | _, _, i + 1, v, .cons p t, h => by
    obtain ⟨c, h1, h2⟩ := Two.at (i := i) (v := v) t (by simpa using h)
    exact ⟨c, by simpa using h1, h2⟩
theorem Two.app : ∀ {vs us : List V} {cs ds : List α}, Two R vs cs → Two R us ds → Two R (vs ++ us) (cs ++ ds)
  | _, _, _, _, .nil, q => q
  | _, _, _, _, .cons p t, q => .cons p (t.app q)
theorem Two.take : ∀ {vs : List V} {cs : List α} (i : Nat), Two R vs cs → Two R (vs.take i) (cs.take i)
  | _, _, 0, _ => by rw [List.take_zero, List.take_zero]; exact .nil
  | _, _, _ + 1, .nil => .nil
  | _, _, i + 1, .cons p t => .cons p (t.take i)
theorem Two.drop : ∀ {vs : List V} {cs : List α} (i : Nat), Two R vs cs → Two R (vs.drop i) (cs.drop i)
  | _, _, 0, h => h
  | _, _, _ + 1, .nil => .nil
  | _, _, i + 1, .cons p t => t.drop i
theorem Two.one {v : V} {c : α} (h : R v c) : Two R [v] [c] := .cons h .nil
end
/-- a tuple: one that was made, or a given one -/
def Tp (K : PySem.W.Frag) (H : Hp) (a : Addr) (xs : List V) : Prop := H a = some (.tup xs) ∨ ∀ H', SqT K H' a xs
theorem Tp.seq {K : PySem.W.Frag} {H : Hp} {a : Addr} {xs : List V} (h : Tp K H a xs) : SqT K H a xs := by
  rcases h with h | h
  · exact SqT.of h
  · exact h H
theorem Tp.mono {T : Addr → Prop} {K : PySem.W.Frag} {H H' : Hp} {a : Addr} {xs : List V} (k : Imm T H H') (h : Tp K H a xs) : Tp K H' a xs := by
  rcases h with h | h
  · exact .inl (k _ _ h trivial)
  · exact .inr h
theorem Imm.less {T S : Addr → Prop} {H H' : Hp} (l : ∀ C, S C → T C) (k : Imm T H H') : Imm S H H' := fun b o e i => k b o e (by
  cases o <;> first | exact i | exact l _ i)
theorem op_inK {X : Cx} (K : PySem.W.Frag) (h : X.K = K) : OpR X (compareOp .In) (rIn K false) := h ▸ op_in_seq
theorem op_notInK {X : Cx} (K : PySem.W.Frag) (h : X.K = K) : OpR X (compareOp .NotIn) (rIn K true) := h ▸ op_notIn_seq
/-! ## if: the test's end is told once, for both suites -/
def tIfG (c : TT) (t u : TS) : TS := fun D σ H => ∃ R : Bool → Hp → Prop, c σ H R ∧ ∀ b H', R b H' → if b = true then t D σ H' else u D σ H'
theorem ps_ifG {X : Cx} {c : Expr} {a b : List Stmt} {tc : TT} {t u : TS} {pos : Pos} (hc : PT X c tc) (ha : PSs X a t) (hb : PSs X b u) : PS X (.If c a b pos) (tIfG tc t u) := by
  refine ⟨fun pins s σ H D I h => ?_⟩
  obtain ⟨R, h, k⟩ := h
  refine wpAny_If (thn (hc.run pins s σ H _ I h) fun d s1 ⟨H1, I1, q1⟩ => ?_)
  have k := k d H1 q1
  cases d with
  | true => exact ha.run pins s1 σ H1 D I1 k
  | false => exact hb.run pins s1 σ H1 D I1 k
theorem cutV_neg_to (l : List V) (n : Nat) (h1 : 1 ≤ n) (h2 : n ≤ l.length) : cutV l none (some (-(n : Int))) = l.take (l.length - n) := by
  unfold cutV
  rw [HT.sIx_none, List.drop_zero, Nat.sub_zero]
  congr 1
  show (if -(n : Int) < 0 then (-(n : Int) + (l.length : Int)).toNat else min (-(n : Int)).toNat l.length) = _
  rw [if_pos (by omega)]
  omega
theorem cutV_neg_from (l : List V) (n : Nat) (h1 : 1 ≤ n) (h2 : n ≤ l.length) : cutV l (some (-(n : Int))) none = l.drop (l.length - n) := by
  have e : HT.sIx l.length 0 (some (-(n : Int))) = l.length - n := by
    show (if -(n : Int) < 0 then (-(n : Int) + (l.length : Int)).toNat else min (-(n : Int)).toNat l.length) = _
    rw [if_pos (by omega)]
    omega
  unfold cutV
  rw [HT.sIx_none, e, List.take_of_length_le (by rw [List.length_drop]; omega)]
end Ru

set_option Elab.async false
set_option linter.all false
set_option maxRecDepth 100000
/-! len(set(xs)), xs a list or a tuple of texts, any of them twice -/
namespace Ru
open PySem PySem.Spec PyProof.Rows
/-- how many unlike ones stand among the first i -/
def cntS (xs : List Str) : Nat → Nat
  | 0 => 0
  | i + 1 => if (xs.take i).any (· == xs.getD i Str.empty) = true then cntS xs i else cntS xs i + 1
theorem cntS_le (xs : List Str) : ∀ i, cntS xs i ≤ i
  | 0 => Nat.le_refl _
  | i + 1 => by
    have := cntS_le xs i
    rw [cntS]
    split <;> omega
theorem cntS_take (xs : List Str) : ∀ i, i ≤ xs.length → (cntS xs i = i ↔ (xs.take i).Nodup)
  | 0, _ => by simp [cntS]
  | i + 1, h => by
    have ih := cntS_take xs i (by omega)
    have hl := cntS_le xs i
    have e1 : xs.getD i Str.empty = xs[i] := by rw [List.getD_eq_getElem?_getD, List.getElem?_eq_getElem (by omega)]; rfl
    have e2 : xs.take (i + 1) = xs.take i ++ [xs[i]] := by rw [List.take_add_one, List.getElem?_eq_getElem (by omega)]; rfl
    rw [cntS, e1, e2, List.nodup_append]
    by_cases hm : xs[i] ∈ xs.take i
    · have ha : ((xs.take i).any fun x => x == xs[i]) = true := List.any_eq_true.mpr ⟨_, hm, beq_self_eq_true _⟩
      rw [if_pos ha]
      constructor
      · intro q; omega
      · intro q; exact absurd rfl (q.2.2 _ hm _ (List.mem_singleton.mpr rfl))
    · have ha : ¬ ((xs.take i).any fun x => x == xs[i]) = true := fun q => by
        obtain ⟨y, hy, ey⟩ := List.any_eq_true.mp q
        rw [eq_of_beq ey] at hy
        exact hm hy
      rw [if_neg ha]
      constructor
      · intro q
        refine ⟨ih.mp (by omega), by simp, fun a ha b hb e => ?_⟩
        rw [List.mem_singleton.mp hb] at e
        exact hm (e ▸ ha)
      · intro q
        have := ih.mpr q.1
        omega
theorem cntS_all (xs : List Str) : cntS xs xs.length = xs.length ↔ xs.Nodup := by
  have := cntS_take xs xs.length (Nat.le_refl _)
  rwa [List.take_length] at this
section
variable {prog : Program} {w : World} {A : Around} {I : Addr} {fp wr : List Addr} {n : Nat} {P : Nat → Value → Prop} {St : Nat → Heap → Prop}
/-- the set at S bears the first i of xs -/
def BearsS (prog : Program) (w : World) (h : Heap) (S : Addr) (xs : List Str) (i : Nat) : Prop := h.SetOf (PySem.strKind prog w) S (fun z => (xs.take i).any (· == z)) (cntS xs i)
theorem BearsS.keep {h h' : Heap} {S : Addr} {xs : List Str} {i : Nat} (q : BearsS prog w h S xs i) (k : ∀ o, h.get? S = some o → h'.get? S = some o) : BearsS prog w h' S xs i := by
  obtain ⟨o, es, ep, t, ho, r⟩ := q
  exact ⟨o, es, ep, t, k o ho, r⟩
theorem any_snoc (l : List Str) (x z : Str) : (l ++ [x]).any (· == z) = (l.any (· == z) || decide (z = x)) := by
  rw [List.any_append]
  congr 1
  by_cases e : z = x
  · subst e; simp
  · rw [decide_eq_false e]
    simp only [List.any_cons, List.any_nil, Bool.or_false]
    exact beq_eq_false_iff_ne.mpr fun q => e q.symm
/-- the loop of set.update over n texts -/
theorem loopTexts (W : Walks prog w A.in1 I fp wr n P St) (S : Addr) (hSf : S ∉ fp) (xs : List Str) (hsz : xs.length = n) (hn1 : n + 1 < scanBound) (hval : ∀ i v, P i v → ∃ t, v = .str (xs.getD i Str.empty) t)
    {R : Result → Shared → Prop} : ∀ (k i : Nat) (s : Shared), i + k = n → St i s.heap → BearsS prog w s.heap S xs i →
      (∀ h' tk, BearsS prog w h' S xs n → (∀ b o, b ≠ S → b ∉ wr → s.heap.get? b = some o → h'.get? b = some o) → R (.ok (.ret .none)) { s with heap := h', toks := tk }) →
      codeAny (model prog w) A (.builtin "set.update.loop" ⟨[.ref S, .ref I], []⟩) R s
  | 0, i, s, hk, hst, hS, hR => by
    obtain rfl : i = n := by omega
    refine codeAny_builtin PyProof.Rows.F.entry_set_update_loop ?_
    rw [Around.under_plainId PyProof.Rows.F.plain_set_update_loop _]
    show wpAny _ A.in1 (pyNext (.ref I) >>= _) _ _ s
    refine wpAny_bind (W.done s _ _ hst fun h' tk hm => ?_)
    show wpAny _ A.in1 (ret Value.none) _ _ _
    exact wpAny_pure (hR h' tk (hS.keep fun o e => hm S o (fun q => hSf (W.sub _ q)) e) fun b o _ hb e => hm b o hb e)
  | k + 1, i, s, hk, hst, hS, hR => by
    have hlt : i < xs.length := by omega
    refine codeAny_builtin PyProof.Rows.F.entry_set_update_loop ?_
    rw [Around.under_plainId PyProof.Rows.F.plain_set_update_loop _]
    show wpAny _ A.in1 (pyNext (.ref I) >>= _) _ _ s
    refine wpAny_bind (W.item i s _ _ (by omega) hst fun v h1 tk1 hP st1 hm => ?_)
    obtain ⟨t, rfl⟩ := hval i v hP
    have hS1 : BearsS prog w h1 S xs i := hS.keep fun o e => hm S o (fun q => hSf (W.sub _ q)) e
    show wpAny _ A.in1 (holding [Value.str (xs.getD i Str.empty) t] (setAdd S (.str (xs.getD i Str.empty) t)) >>= _) _ _ _
    refine wpAny_bind (wpAny_holding ?_)
    unfold setAdd
    refine wpAny_holding (wpAny_bind ((PySem.strKind prog w).pyHash (k := xs.getD i Str.empty) (PySem.strKind_is _ _ _ _) ?_))
    have hc := cntS_le xs i
    refine wpAny_setAddHashed_of (knd := PySem.strKind prog w) (PySem.strKind_is _ _ _ _) rfl hS1 (by unfold scanBound at hn1 ⊢; omega) fun h2 sb new => ?_
    have e1 : xs.take (i + 1) = xs.take i ++ [xs.getD i Str.empty] := by
      rw [List.take_add_one, List.getD_eq_getElem?_getD, List.getElem?_eq_getElem hlt]
      rfl
    have hS2 : BearsS prog w h2 S xs (i + 1) := by
      refine PyProof.Rows.SetOf_congr new (fun z => ?_) ?_
      · rw [e1, any_snoc]
      · rw [cntS]
    refine wpAny_pure ⟨plainId_quiet PyProof.Rows.F.plain_set_update_loop _, loopTexts W S hSf xs hsz hn1 hval k (i + 1) _ (by omega) (W.frame _ h1 _ st1 fun b hb o e => ?_) hS2 fun h3 tk3 hS3 hm3 => ?_⟩
    · exact (sb.2 b fun q => hSf (q ▸ hb)).trans e
    · exact hR h3 tk3 hS3 fun b o n1 n2 e => hm3 b o n1 n2 ((sb.2 b n1).trans (hm b o n2 e))
end
section
variable {prog : Program} {w : World} {A : Around} {E : Value → Shared → Prop} {s : Shared}
set_option maxHeartbeats 3200000 in
/-- set(xs), xs the list or the tuple at l -/
theorem call_setTexts {l : Addr} {items : Array Value} {xs : List Str} {Q : Value → Shared → Prop} (hh : A.handled = none) (hl : s.heap.IsList l items ∨ s.heap.IsTuple l items) (hi : PyProof.Rows.StrsAre items.toList xs) (hn1 : xs.length + 1 < scanBound)
    (h : ∀ (h' : Heap) (tk : Nat), BearsS prog w h' s.heap.objs.size xs xs.length → (∀ b o, b < s.heap.objs.size → s.heap.get? b = some o → h'.get? b = some o) → Q (.ref s.heap.objs.size) { s with heap := h', toks := tk }) :
    wpAny (model prog w) A (call (.type "set") [.ref l]) Q E s := by
  have hlen : xs.length = items.size := by rw [← PyProof.Rows.StrsAre.len_eq hi, Array.length_toList]
  have hval : ∀ (i : Nat) (v : Value), items[i]? = some v → ∃ t, v = .str (xs.getD i Str.empty) t := fun i v hv => SS.strs_at hi i v (by rw [Array.getElem?_toList]; exact hv)
  obtain ⟨c, tl, hmro⟩ := PySem.F.called_set.mro
  have hmade := PySem.F.called_set.made
  have hsub := PySem.F.called_set.sub
  refine wpAny_call (codeAny_of_tree ?_)
  show wpAny _ _ (callAny (.type "set") _) _ _ _
  refine wpAny_pure ⟨Code.quiet_builtin _ (by decide +kernel), codeAny_builtin PySem.F.entry_type_call ?_⟩
  rw [Around.under_plain (weight_type_call_type "set" [.ref l] []) rfl]
  have h1 := PySem.F.called_set.notType
  have h2 := PySem.F.called_set.canCreate
  have hct := PySem.F.typeCall_set_1 (.ref l)
  repeat (any_goals (first | assumption | wp_step))
  refine codeAny_mono (code_set_new_1 (.ref l) (E := E) (Q₁ := fun obj s₁ => ∃ led : Bool, obj = .ref s.heap.objs.size ∧ s₁ = { s with heap := s.heap.push { cls := .type "set", dict := none, data := .set #[] 0 (.fresh 0 0 led) } }) fun led => ⟨led, rfl, rfl⟩) fun r s₁ hr => ?_
  match r, hr with
  | .error e, hr => exact hr
  | .ok .next, hr => exact hr.elim
  | .ok .brk, hr => exact hr.elim
  | .ok .cont, hr => exact hr.elim
  | .ok (.ret obj), hr =>
    obtain ⟨led, rfl, rfl⟩ := hr
    have hS : (s.heap.push { cls := .type "set", dict := none, data := .set #[] 0 (.fresh 0 0 led) }).get? s.heap.objs.size = some { cls := .type "set", dict := none, data := .set #[] 0 (.fresh 0 0 led) } := Heap.get?_push_size _ rfl
    generalize eS : ({ cls := .type "set", dict := none, data := .set #[] 0 (.fresh 0 0 led) } : Obj) = oS at hS ⊢
    have hT : Shared.TypeIs { s with heap := s.heap.push oS } (.ref s.heap.objs.size) "set" := ⟨_, hS, by rw [← eS]⟩
    have hli := PySem.F.called_set.init.lookup
    have hbi := PySem.F.called_set.init.bind (.ref s.heap.objs.size)
    have hh3 : A.in1.in1.in1.handled = none := by simp [hh]
    repeat (any_goals (first | assumption | wp_step))
    refine codeAny_mono (codeAny_call_builtin (R := wants (fun r s₂ => r = .none ∧ ∃ h' tk, s₂ = { s with heap := h', toks := tk } ∧ BearsS prog w h' s.heap.objs.size xs xs.length ∧
        (∀ b o, b < s.heap.objs.size → s.heap.get? b = some o → h'.get? b = some o)) E) PySem.F.called_set.init.plain PySem.F.entry_set_init (check_set_init_1 hT ?_)) fun r₂ s₂ hr₂ => ?_
    · have fin : ∀ (oi : Obj) {St : Nat → Heap → Prop}, l < s.heap.objs.size → Walks prog w A.in1.in1.in1 (s.heap.push oS).objs.size [(s.heap.push oS).objs.size, l] [(s.heap.push oS).objs.size] items.size (fun i v => items[i]? = some v) St →
          St 0 ((s.heap.push oS).push oi) → ∀ R : Result → Shared → Prop, (∀ h' tk, BearsS prog w h' s.heap.objs.size xs xs.length → (∀ b o, b < s.heap.objs.size → s.heap.get? b = some o → h'.get? b = some o) → R (.ok (.ret .none)) { s with heap := h', toks := tk }) →
          codeAny (model prog w) A.in1.in1 (.builtin "set.update.loop" ⟨[.ref s.heap.objs.size, .ref (s.heap.push oS).objs.size], []⟩) R { s with heap := (s.heap.push oS).push oi } := by
        intro oi St hlS W st R hR
        have hz : (s.heap.push oS).objs.size = s.heap.objs.size + 1 := Heap.size_push ..
        have hget : ((s.heap.push oS).push oi).get? s.heap.objs.size = some oS := Heap.get?_push_of_some _ hS
        have nS : s.heap.objs.size ∉ [(s.heap.push oS).objs.size, l] := by
          rw [hz]
          simp only [List.mem_cons, List.not_mem_nil, or_false, not_or]
          exact ⟨Nat.ne_of_lt (Nat.lt_succ_self _), Nat.ne_of_gt hlS⟩
        refine loopTexts W s.heap.objs.size nS xs hlen (by rw [← hlen]; exact hn1) hval items.size 0 _ (by omega) st ?_ fun h' tk hb hk => ?_
        · subst eS
          exact PyProof.Rows.SetOf_congr ((PyProof.Rows.setObjOf_fresh (knd := PySem.strKind prog w) led).setOf hget (by unfold scanBound; omega)) (fun _ => rfl) rfl
        · rw [← hlen] at hb
          refine hR h' tk hb fun b o hlt e => hk b o (Nat.ne_of_lt hlt) (by rw [hz]; simp only [List.mem_cons, List.not_mem_nil, or_false]; exact Nat.ne_of_lt (Nat.lt_succ_of_lt hlt)) (Heap.get?_push_of_some _ (Heap.get?_push_of_some _ e))
      have hne1 : ∀ {c : Addr}, c < s.heap.objs.size → c ≠ (s.heap.push oS).objs.size := fun hc => by
        rw [Heap.size_push]; exact Nat.ne_of_lt (Nat.lt_succ_of_lt hc)
      rcases hl with hl | hl
      · obtain ⟨ol, hol, hcl, nl, hdl⟩ := hl
        obtain ⟨ocls, odict, odata, oslots⟩ := ol
        simp only at hcl hdl
        subst hcl hdl
        have hol' := Heap.get?_push_of_some oS hol
        have hl1 : (s.heap.push oS).IsList l items := ⟨_, hol', rfl, nl, rfl⟩
        have hlS : l < s.heap.objs.size := Heap.lt_size hol
        have k1 := PySem.F.sub_list_set
        have k2 := PySem.F.sub_list_frozenset
        have k3 : (Value.type "list" == Value.type "dict") = false := by decide
        subst eS
        unfold Builtin.«set.__init__» noKeywords Builtin.Frozenset.updateFrom
        generalize hPI : pyIter = PI
        wp_walk
        subst hPI
        refine wpAny_pyIter_list hl1 ?_
        refine wpAny_bind (wpAny_runValue ?_)
        refine fin _ hlS (Walks.list hh3 _ l (hne1 hlS) items) ⟨⟨_, Heap.get?_push_size _ rfl, rfl, rfl⟩, (hl1.push _)⟩ _ fun h' tk hb hk => ?_
        show wpAny _ _ _ _ _ _
        refine wpAny_pure ?_
        show wpAny _ _ (ret Value.none) _ _ _
        exact wpAny_pure ⟨rfl, h', tk, rfl, hb, hk⟩
      · obtain ⟨ol, hol, hcl, nl, hdl⟩ := hl
        obtain ⟨ocls, odict, odata, oslots⟩ := ol
        simp only at hcl hdl
        subst hcl hdl
        have hol' := Heap.get?_push_of_some oS hol
        have hl1 : (s.heap.push oS).IsTuple l items := ⟨_, hol', rfl, nl, rfl⟩
        have hlS : l < s.heap.objs.size := Heap.lt_size hol
        have k1 := PySem.F.sub_tuple_set
        have k2 := PySem.F.sub_tuple_frozenset
        have k3 : (Value.type "tuple" == Value.type "dict") = false := by decide
        subst eS
        unfold Builtin.«set.__init__» noKeywords Builtin.Frozenset.updateFrom
        generalize hPI : pyIter = PI
        wp_walk
        subst hPI
        refine wpAny_pyIter_tuple hl1 ?_
        refine wpAny_bind (wpAny_runValue ?_)
        refine fin _ hlS (Walks.tuple hh3 _ l (hne1 hlS) items) ⟨⟨_, Heap.get?_push_size _ rfl, rfl, rfl⟩, (hl1.push _)⟩ _ fun h' tk hb hk => ?_
        show wpAny _ _ _ _ _ _
        refine wpAny_pure ?_
        show wpAny _ _ (ret Value.none) _ _ _
        exact wpAny_pure ⟨rfl, h', tk, rfl, hb, hk⟩
    · match r₂, hr₂ with
      | .error e, hr₂ => exact hr₂
      | .ok .next, hr₂ => exact hr₂.elim
      | .ok .brk, hr₂ => exact hr₂.elim
      | .ok .cont, hr₂ => exact hr₂.elim
      | .ok (.ret r), hr₂ =>
        obtain ⟨rfl, h', tk, rfl, hS', hk'⟩ := hr₂
        repeat (any_goals (first | assumption | wp_step))
        exact h _ _ hS' hk'
end
/-! ### len(set(xs)) -/
def tLenSetS (K : PySem.W.Frag) (ta : L2.TE) : L2.TE := fun σ H Q => ta σ H fun x H1 => ∃ l, ∃ xs : List Str, x = .ref l ∧ (L2.SqL K H1 l (xs.map L2.V.str) ∨ L2.SqT K H1 l (xs.map L2.V.str)) ∧ xs.length ≤ 1000 ∧ ∀ n : Nat, n ≤ xs.length → (n = xs.length ↔ xs.Nodup) → Q (.int n) H1
open L2 in
theorem pe_lenSetS {X : Cx} {a : Expr} {ta : TE} {p p2 q pos : Pos} (hc : X.calm = true) (hg : Gl X "len") (hm : X.mg "len" = none) (hg2 : Gl X "set") (hm2 : X.mg "set" = none) (ha : PE X a ta)
    (na : starEach [a] X.env = (false, eval a X.env) :: starEach [] X.env := by rfl) : PE X (.Call (.Name "len" p) [.Call (.Name "set" p2) [a] [] q] [] pos) (tLenSetS X.K ta) := by
  refine ⟨fun pins s σ H Q I h => ?_⟩
  refine Call_ (ld_blt I hg hm boot_len ?_)
  refine PyProof.Rows.callWith_builtin1 (PyProof.Rows.args_cons ?_ rfl) rfl rfl
  refine Call_ (ld_blt I hg2 hm2 boot_set ?_)
  refine PyProof.Rows.callWith_type1 (PyProof.Rows.args_cons (thn (ha.run pins s σ H _ I h) fun v s1 ⟨x, H1, I1, r1, q1⟩ => PyProof.Rows.args_nil ?_) na) na rfl
  obtain ⟨l, xs, rfl, hq, hn, q1⟩ := q1
  cases r1
  have fin : ∀ (h' : Heap) (tk : Nat), BearsS X.prog X.w h' s1.heap.objs.size xs xs.length → (∀ b o, b < s1.heap.objs.size → s1.heap.get? b = some o → h'.get? b = some o) →
      wpAny (model X.prog X.w) X.A (spliced (backTo pos (starEach [] X.env))) (fun vs s₂ => wpAny (model X.prog X.w) X.A (call (.builtin "len") (Value.ref s1.heap.objs.size :: vs)) (EP X pins σ Q) X.xe s₂) X.xe { s1 with heap := h', toks := tk } := by
    intro h' tk hS hk
    refine PyProof.Rows.args_nil ?_
    obtain ⟨o, es, ep, t, ho, hex, hd, _, _, _, hf, hcn⟩ := hS
    have I2 : Inv X pins σ H1 { s1 with heap := h', toks := tk } := I1.kept fun b o e => hk b o (Heap.lt_size e) e
    have hle := cntS_le xs xs.length
    refine call_len_set ho hex hd hf (by rw [hcn]; omega) ⟨.int (cntS xs xs.length : Nat), H1, I2.tok _, ⟨_, by rw [hcn]⟩, q1 _ hle (cntS_all xs)⟩
  have hb : xs.length + 1 < scanBound := by unfold scanBound; omega
  rcases hq with hq | hq
  · obtain ⟨its, r, pl, hz⟩ := I1.list hq
    exact call_setTexts (I1.ok.hd hc) (.inl pl.isList) (by simpa using strsAre_of r) hb fin
  · obtain ⟨its, r, pl, hz⟩ := I1.tuple hq
    exact call_setTexts (I1.ok.hd hc) (.inr pl) (by simpa using strsAre_of r) hb fin
end Ru

set_option Elab.async false
set_option linter.all false
set_option maxRecDepth 100000
set_option maxHeartbeats 2000000
/-! zip of a tuple and a list: by what each iterator's next does, whichever it is -/
namespace Ru
open PySem PySem.Spec PyProof.Rows L2
/-- the iterator at i over ys, which stand at l; P: it stands at a place -/
structure Dr (prog : Program) (w : World) (i l : Addr) (ys : Array Value) (P : Heap → Nat → Prop) : Prop where
  keep : ∀ {e : Addr} {h h' : Heap} {k : Nat}, P h k → Heap.ExtBut e h h' → i ≠ e → l ≠ e → P h' k
  item : ∀ {A : Around} {E : Value → Shared → Prop} {s : Shared} {k : Nat} {y : Value} {Q : Value → Shared → Prop}, P s.heap k → ys[k]? = some y →
    (∀ h', P h' (k + 1) → Heap.SameBut i s.heap h' → Q y { s with heap := h' }) → wpAny (model prog w) A (Builtin.SmallTypes.nextOf (.ref i)) Q E s
  stop : ∀ {A : Around} {E : Value → Shared → Prop} {s : Shared} {k : Nat} {Q : Value → Shared → Prop}, A.handled = none → P s.heap k → ys[k]? = none →
    (∀ h' e, Heap.ExtBut i s.heap h' → (∃ o, h'.get? e = some o ∧ o.cls = .type "StopIteration") → E (.ref e) { s with heap := h' }) → wpAny (model prog w) A (Builtin.SmallTypes.nextOf (.ref i)) Q E s
theorem dr_tup {prog : Program} {w : World} {i l : Addr} {ys : Array Value} (n : l ≠ i) : Dr prog w i l ys fun h k => h.IsTupleIter i l k ∧ h.IsTuple l ys :=
  ⟨fun p x n1 n2 => ⟨p.1.extBut x n1, p.2.extBut x n2⟩, fun p hy q => RZ.nextOf_tuple_item p.1 p.2 hy fun h' a b => q h' ⟨a, p.2.extBut b.extBut n⟩ b, fun hh p hy q => RZ.nextOf_tuple_end hh p.1 p.2 hy q⟩
theorem dr_lst {prog : Program} {w : World} {i l : Addr} {ys : Array Value} (n : l ≠ i) : Dr prog w i l ys fun h k => h.IsListIter i l k ∧ h.IsList l ys :=
  ⟨fun p x n1 n2 => ⟨p.1.extBut x n1, p.2.extBut x n2⟩, fun p hy q => wpAny_nextOf_list_item p.1 p.2 hy fun h' a b => q h' ⟨a, p.2.extBut b.extBut n⟩ b, fun hh p hy q => wpAny_nextOf_list_end hh p.1 p.2 hy q⟩
section
variable {prog : Program} {w : World} {A : Around} {E : Value → Shared → Prop} {s : Shared} {z TI TO i1 i2 l1 l2 : Addr} {k1 k2 : Nat} {xs ys : Array Value} {x y a b : Value} {P1 P2 : Heap → Nat → Prop}
/-- the zip at z, its parts, as they stand -/
structure Zst (h : Heap) (z TI TO i1 i2 : Addr) (a b : Value) (f : Value) : Prop where
  z : IsZip h z TI TO f
  ti : IsPair h TI (.ref i1) (.ref i2)
  to : IsPair h TO a b
theorem zipD_item {Q : Value → Shared → Prop} (d1 : Dr prog w i1 l1 xs P1) (d2 : Dr prog w i2 l2 ys P2) (D : ZipApart z TI TO i1 i2 l1 l2) (g : Zst s.heap z TI TO i1 i2 a b .none) (p1 : P1 s.heap k1) (p2 : P2 s.heap k2) (hx : xs[k1]? = some x) (hy : ys[k2]? = some y)
    (q : ∀ h', Zst h' z TI TO i1 i2 x y (rawInt s.heap.objs.size) → P1 h' (k1 + 1) → P2 h' (k2 + 1) → IsPair h' s.heap.objs.size x y → (∀ c o, c ≠ z → c ≠ TO → c ≠ i1 → c ≠ i2 → s.heap.get? c = some o → h'.get? c = some o) → Q (.ref s.heap.objs.size) { s with heap := h' })
    (hl1 : l1 < s.heap.objs.size) (hl2 : l2 < s.heap.objs.size) (hi1 : i1 < s.heap.objs.size) (hi2 : i2 < s.heap.objs.size) :
    wpAny (model prog w) A (Builtin.«zip.__next__» ⟨[.ref z], []⟩) (fun fin s' => ∃ v, fin = .done (.ret v) ∧ Q v s') E s := by
  obtain ⟨gz, gi, go⟩ := g
  show wpAny _ _ (field (.ref z) 2 >>= fun _ => _) _ _ s
  refine wpAny_bind (wpAny_field gz rfl (x := .bool false) rfl (wpAny_bind (wpAny_field gz rfl (x := .ref TI) rfl (wpAny_bind (wpAny_seqItems gi rfl (wpAny_bind ?_))))))
  unfold Builtin.SmallTypes.ownedTupleIsFree
  refine wpAny_bind (wpAny_field gz rfl (x := .none) rfl (wpAny_pure ?_))
  rw [if_pos rfl]
  refine wpAny_bind (wpAny_rule (wpAny_bind (wpAny_field gz rfl (x := .ref TO) rfl (wpAny_bind (wpAny_setField_rec gz (by simp) fun ha za sa => ?_)))))
  have za : IsZip ha z TI TO .ellipsis := za
  have p1a := d1.keep p1 sa.extBut D.i1z D.l1z
  have p2a := d2.keep p2 sa.extBut D.i2z D.l2z
  refine wpAny_bind ?_
  simp only [List.zipIdx_cons, List.zipIdx_nil, List.forIn_cons, List.forIn_nil]
  -- the first one
  refine wpAny_bind (wpAny_bind (wpAny_onRaise ?_))
  show wpAny _ _ (Builtin.SmallTypes.nextOf (.ref i1) >>= fun _ => _) _ _ { s with heap := ha }
  refine wpAny_bind (d1.item (s := { s with heap := ha }) p1a hx fun hb p1b sb => wpAny_pure ?_)
  have ob : IsPair hb TO a b := sb.extBut _ _ D.TOi1 (sa.extBut _ _ D.TOz go)
  refine wpAny_bind (wpAny_seqItems ob rfl (wpAny_bind (wpAny_updateSeq_pair ob fun hc oc sc => wpAny_bind (wpAny_letGo (wpAny_pure ?_)))))
  have oc : IsPair hc TO x b := oc
  have p2c := d2.keep (d2.keep p2a sb.extBut D.i12.symm D.l2i1) sc.extBut D.TOi2.symm D.l2TO
  have p1c := d1.keep p1b sc.extBut D.TOi1.symm D.l1TO
  -- the second one
  refine wpAny_bind (wpAny_bind (wpAny_onRaise ?_))
  show wpAny _ _ (Builtin.SmallTypes.nextOf (.ref i2) >>= fun _ => _) _ _ { s with heap := hc }
  refine wpAny_bind (d2.item (s := { s with heap := hc }) p2c hy fun hd p2d sd => wpAny_pure ?_)
  have od : IsPair hd TO x b := sd.extBut _ _ D.TOi2 oc
  refine wpAny_bind (wpAny_seqItems od rfl (wpAny_bind (wpAny_updateSeq_pair od fun he oe se => wpAny_bind (wpAny_letGo (wpAny_pure (wpAny_pure ?_))))))
  have oe : IsPair he TO x y := oe
  have p1e := d1.keep (d1.keep p1c sd.extBut D.i12 D.l1i2) se.extBut D.TOi1.symm D.l1TO
  have p2e := d2.keep p2d se.extBut D.TOi2.symm D.l2TO
  have ze : IsZip he z TI TO .ellipsis := se.extBut _ _ D.TOz.symm (sd.extBut _ _ D.i2z.symm (sc.extBut _ _ D.TOz.symm (sb.extBut _ _ D.i1z.symm za)))
  have ke : ∀ c o, c ≠ z → c ≠ TO → c ≠ i1 → c ≠ i2 → s.heap.get? c = some o → he.get? c = some o := fun c o n1 n2 n3 n4 e => se.extBut _ _ n2 (sd.extBut _ _ n4 (sc.extBut _ _ n2 (sb.extBut _ _ n3 (sa.extBut _ _ n1 e))))
  have size : he.objs.size = s.heap.objs.size := by rw [se.1, sd.1, sc.1, sb.1, sa.1]
  refine wpAny_bind (wpAny_seqItems oe rfl (wpAny_bind (wpAny_newTuple ?_)))
  show wpAny _ _ (Builtin.SmallTypes.ownedTupleHandOut (.ref z) (.ref he.objs.size) >>= fun _ => _) _ _ _
  refine wpAny_bind ?_
  unfold Builtin.SmallTypes.ownedTupleHandOut
  have zf : IsZip (he.push { cls := .type "tuple", data := .seq #[x, y] }) z TI TO .ellipsis := Heap.get?_push_of_some _ ze
  refine wpAny_bind (wpAny_setField_rec zf (by simp) fun hg zg sg => ?_)
  have zg : IsZip hg z TI TO (rawInt he.objs.size) := zg
  refine wpAny_setField_rec zg (by simp) fun hk zk sk => wpAny_pure ⟨_, rfl, ?_⟩
  have zk : IsZip hk z TI TO (rawInt he.objs.size) := zk
  have up : ∀ c o, c ≠ z → he.get? c = some o → hk.get? c = some o := fun c o n e => sk.extBut _ _ n (sg.extBut _ _ n (Heap.get?_push_of_some _ e))
  have zlt : z < he.objs.size := Heap.lt_size ze
  have tk : IsPair hk he.objs.size x y := sk.extBut _ _ (Nat.ne_of_gt zlt) (sg.extBut _ _ (Nat.ne_of_gt zlt) (Heap.get?_push_size _ rfl))
  have ext : Heap.ExtBut z he hk := fun c o n e => up c o n e
  have ti : IsPair hk TI (.ref i1) (.ref i2) := up _ _ D.TIz (ke _ _ D.TIz D.TITO D.TIi1 D.TIi2 gi)
  rw [size] at zk tk
  show Q (.ref he.objs.size) _
  rw [size]
  exact q hk ⟨zk, ti, up _ _ D.TOz oe⟩ (d1.keep p1e ext D.i1z D.l1z) (d2.keep p2e ext D.i2z D.l2z) tk fun c o n1 n2 n3 n4 e => up c o n1 (ke c o n1 n2 n3 n4 e)
theorem zipD_stop {Q : PySem.Fin → Shared → Prop} (hh : A.handled = none) (d1 : Dr prog w i1 l1 xs P1) (d2 : Dr prog w i2 l2 ys P2) (D : ZipApart z TI TO i1 i2 l1 l2) (g : Zst s.heap z TI TO i1 i2 a b .none) (p1 : P1 s.heap k1) (p2 : P2 s.heap k2) (hend : xs[k1]? = none ∨ ys[k2]? = none)
    (q : ∀ h' e, (∀ c o, c ≠ z → c ≠ TO → c ≠ i1 → c ≠ i2 → s.heap.get? c = some o → h'.get? c = some o) → (∃ o, h'.get? e = some o ∧ o.cls = .type "StopIteration") → E (.ref e) { s with heap := h' }) :
    wpAny (model prog w) A (Builtin.«zip.__next__» ⟨[.ref z], []⟩) Q E s := by
  obtain ⟨gz, gi, go⟩ := g
  show wpAny _ _ (field (.ref z) 2 >>= fun _ => _) _ _ s
  refine wpAny_bind (wpAny_field gz rfl (x := .bool false) rfl (wpAny_bind (wpAny_field gz rfl (x := .ref TI) rfl (wpAny_bind (wpAny_seqItems gi rfl (wpAny_bind ?_))))))
  unfold Builtin.SmallTypes.ownedTupleIsFree
  refine wpAny_bind (wpAny_field gz rfl (x := .none) rfl (wpAny_pure ?_))
  rw [if_pos rfl]
  refine wpAny_bind (wpAny_rule (wpAny_bind (wpAny_field gz rfl (x := .ref TO) rfl (wpAny_bind (wpAny_setField_rec gz (by simp) fun ha za sa => ?_)))))
  have za : IsZip ha z TI TO .ellipsis := za
  have p1a := d1.keep p1 sa.extBut D.i1z D.l1z
  have p2a := d2.keep p2 sa.extBut D.i2z D.l2z
  -- the zip is free again, and what next raised goes out
  have out : ∀ {h : Heap} {e : Addr} {R : Unit → Shared → Prop}, IsZip h z TI TO .ellipsis → (∃ o, h.get? e = some o ∧ o.cls = .type "StopIteration") → (∀ c o, c ≠ z → c ≠ TO → c ≠ i1 → c ≠ i2 → s.heap.get? c = some o → h.get? c = some o) →
      (∀ h', R () { s with heap := h' } → True) → (∀ h', (∀ c o, c ≠ z → c ≠ TO → c ≠ i1 → c ≠ i2 → s.heap.get? c = some o → h'.get? c = some o) → (∃ o, h'.get? e = some o ∧ o.cls = .type "StopIteration") → R () { s with heap := h' }) →
      wpAny (model prog w) A (setField (.ref z) 0 .none) R E { s with heap := h } := by
    intro h e R gz ⟨oe, he, hc⟩ kp _ r
    have nz : e ≠ z := fun q => by
      rw [q, gz] at he
      cases he
      exact absurd hc (by simp)
    exact wpAny_setField_rec gz (by simp) fun h' _ sh => r h' (fun c o n1 n2 n3 n4 u => sh.extBut _ _ n1 (kp c o n1 n2 n3 n4 u)) ⟨oe, sh.extBut _ _ nz he, hc⟩
  refine wpAny_bind ?_
  simp only [List.zipIdx_cons, List.zipIdx_nil, List.forIn_cons, List.forIn_nil]
  refine wpAny_bind (wpAny_bind (wpAny_onRaise ?_))
  show wpAny _ _ (Builtin.SmallTypes.nextOf (.ref i1) >>= fun _ => _) _ _ { s with heap := ha }
  cases hx : xs[k1]? with
  | none =>
    refine wpAny_bind (d1.stop (s := { s with heap := ha }) hh p1a hx fun hb e sb st => ?_)
    exact out (sb _ _ D.i1z.symm za) st (fun c o n1 _ n3 _ u => sb _ _ n3 (sa.extBut _ _ n1 u)) (fun _ _ => trivial) fun h' kp st' => q h' e kp st'
  | some x =>
    have hy : ys[k2]? = none := hend.resolve_left fun u => by rw [hx] at u; cases u
    refine wpAny_bind (d1.item (s := { s with heap := ha }) p1a hx fun hb p1b sb => wpAny_pure ?_)
    have ob : IsPair hb TO a b := sb.extBut _ _ D.TOi1 (sa.extBut _ _ D.TOz go)
    refine wpAny_bind (wpAny_seqItems ob rfl (wpAny_bind (wpAny_updateSeq_pair ob fun hc oc sc => wpAny_bind (wpAny_letGo (wpAny_pure ?_)))))
    have p2c := d2.keep (d2.keep p2a sb.extBut D.i12.symm D.l2i1) sc.extBut D.TOi2.symm D.l2TO
    refine wpAny_bind (wpAny_bind (wpAny_onRaise ?_))
    show wpAny _ _ (Builtin.SmallTypes.nextOf (.ref i2) >>= fun _ => _) _ _ { s with heap := hc }
    refine wpAny_bind (d2.stop (s := { s with heap := hc }) hh p2c hy fun hd e sd st => ?_)
    exact out (sd _ _ D.i2z.symm (sc.extBut _ _ D.TOz.symm (sb.extBut _ _ D.i1z.symm za))) st (fun c o n1 n2 n3 n4 u => sd _ _ n4 (sc.extBut _ _ n2 (sb.extBut _ _ n3 (sa.extBut _ _ n1 u)))) (fun _ _ => trivial) fun h' kp st' => q h' e kp st'
theorem pyNext_zipD_item {Q : Option Value → Shared → Prop} (d1 : Dr prog w i1 l1 xs P1) (d2 : Dr prog w i2 l2 ys P2) (D : ZipApart z TI TO i1 i2 l1 l2) (g : Zst s.heap z TI TO i1 i2 a b .none) (p1 : P1 s.heap k1) (p2 : P2 s.heap k2) (hx : xs[k1]? = some x) (hy : ys[k2]? = some y)
    (q : ∀ h', Zst h' z TI TO i1 i2 x y (rawInt s.heap.objs.size) → P1 h' (k1 + 1) → P2 h' (k2 + 1) → IsPair h' s.heap.objs.size x y → (∀ c o, c ≠ z → c ≠ TO → c ≠ i1 → c ≠ i2 → s.heap.get? c = some o → h'.get? c = some o) → Q (some (.ref s.heap.objs.size)) { s with heap := h' })
    (hl1 : l1 < s.heap.objs.size) (hl2 : l2 < s.heap.objs.size) (hi1 : i1 < s.heap.objs.size) (hi2 : i2 < s.heap.objs.size) : wpAny (model prog w) A (pyNext (.ref z)) Q E s := by
  have ty : s.TypeIs (.ref z) "zip" := ⟨_, g.z, rfl⟩
  unfold pyNext
  refine wpAny_bind (wpAny_attempt (wpAny_callSpecial?_slot (name := Str.ofString "__next__") ty PySem.F.slot_zip_next (wpAny_call_entry PySem.F.slot_zip_next ty PySem.F.entry_zip_next ?_ (PySem.F.args_zip_next_1 _))))
  exact zipD_item d1 d2 D g p1 p2 hx hy (fun h' a1 a2 a3 a4 a5 => wpAny_pure (q h' a1 a2 a3 a4 a5)) hl1 hl2 hi1 hi2
theorem pyNext_zipD_stop {Q : Option Value → Shared → Prop} (hh : A.handled = none) (d1 : Dr prog w i1 l1 xs P1) (d2 : Dr prog w i2 l2 ys P2) (D : ZipApart z TI TO i1 i2 l1 l2) (g : Zst s.heap z TI TO i1 i2 a b .none) (p1 : P1 s.heap k1) (p2 : P2 s.heap k2) (hend : xs[k1]? = none ∨ ys[k2]? = none)
    (q : ∀ h', (∀ c o, c ≠ z → c ≠ TO → c ≠ i1 → c ≠ i2 → s.heap.get? c = some o → h'.get? c = some o) → Q none { s with heap := h' }) : wpAny (model prog w) A (pyNext (.ref z)) Q E s := by
  have ty : s.TypeIs (.ref z) "zip" := ⟨_, g.z, rfl⟩
  unfold pyNext
  refine wpAny_bind (wpAny_attempt (wpAny_callSpecial?_slot (name := Str.ofString "__next__") ty PySem.F.slot_zip_next (wpAny_call_entry PySem.F.slot_zip_next ty PySem.F.entry_zip_next (zipD_stop hh d1 d2 D g p1 p2 hend fun h' e kp ⟨o, ho, hc⟩ => ?_) (PySem.F.args_zip_next_1 _))))
  exact wpAny_bind (wpAny_isInstance (T := "StopIteration") (b := true) ⟨o, ho, hc⟩ isSubtype_stop (wpAny_pure (q _ kp)))
end
/-! ### zip of a tuple and a list, made -/
abbrev zH1 (h : Heap) (l : Addr) : Heap := h.push { cls := .type "tuple_iterator", data := .fields #[.ref l, .int 0 0] }
abbrev zH2 (h : Heap) (l m : Addr) : Heap := (zH1 h l).push { cls := .type "list_iterator", data := .fields #[.ref m, .int 0 0] }
abbrev zH3 (h : Heap) (l m : Addr) : Heap := (zH2 h l m).push { cls := .type "tuple", data := .seq #[.ref h.objs.size, .ref (zH1 h l).objs.size] }
abbrev zH4 (h : Heap) (l m : Addr) : Heap := (zH3 h l m).push { cls := .type "tuple", data := .seq #[.none, .none] }
abbrev zH5 (h : Heap) (l m : Addr) : Heap := (zH4 h l m).push { cls := .type "zip", data := .fields #[.none, .bool false, .bool false, .ref (zH2 h l m).objs.size, .ref (zH3 h l m).objs.size] }
theorem meets_zipTL (l m : Addr) (xs ys : Array Value) :
    Meets (Builtin.«zip.__new__» ⟨[.type "zip", .ref l, .ref m], []⟩) (fun _ R s => s.heap.IsTuple l xs ∧ s.heap.IsList m ys ∧ R (.ok (.ret (.ref (zH4 s.heap l m).objs.size))) { s with heap := zH5 s.heap l m }) :=
  .of_wp fun prog w A R s h => by
    obtain ⟨hp, gs, dr, tk, os⟩ := s
    obtain ⟨t1, t2, h⟩ := h
    have sz := sub_zip
    have t1' : Heap.IsTuple (Shared.heap ⟨hp, gs, dr, tk, os⟩) l xs := t1
    have t2' : Heap.IsList (Shared.heap ⟨hp.push { cls := .type "tuple_iterator", data := .fields #[.ref l, .int 0 0] }, gs, dr, tk, os⟩) m ys := Heap.IsList.push t2 _
    wp_walk using wpAny_pyIter_tuple t1', wpAny_pyIter_list t2'
    exact ⟨_, rfl, h⟩
theorem call_zipTL {prog : Program} {w : World} {A : Around} {E : Value → Shared → Prop} {s : Shared} {l m : Addr} {xs ys : Array Value} {Q : Value → Shared → Prop} (t1 : s.heap.IsTuple l xs) (t2 : s.heap.IsList m ys)
    (q : ∀ h', Zst h' (s.heap.objs.size + 4) (s.heap.objs.size + 2) (s.heap.objs.size + 3) s.heap.objs.size (s.heap.objs.size + 1) .none .none .none → h'.IsTupleIter s.heap.objs.size l 0 → h'.IsListIter (s.heap.objs.size + 1) m 0 →
      (∀ c o, s.heap.get? c = some o → h'.get? c = some o) → Q (.ref (s.heap.objs.size + 4)) { s with heap := h' }) : wpAny (model prog w) A (call (.type "zip") [.ref l, .ref m]) Q E s := by
  refine callType_new PySem.F.called_zip (by decide) (PySem.F.typeCall_zip_2 _ _) (PySem.F.newCall_zip_2 _ _) (fun obj => PySem.F.args_object_init_3 obj _ _) PySem.F.entry_zip_new (meets_zipTL l m xs ys) ⟨t1, t2, ?_⟩
  have s1 : (zH1 s.heap l).objs.size = s.heap.objs.size + 1 := Heap.size_push ..
  have s2 : (zH2 s.heap l m).objs.size = s.heap.objs.size + 2 := by rw [Heap.size_push, s1]
  have s3 : (zH3 s.heap l m).objs.size = s.heap.objs.size + 3 := by rw [Heap.size_push, s2]
  have s4 : (zH4 s.heap l m).objs.size = s.heap.objs.size + 4 := by rw [Heap.size_push, s3]
  have up : ∀ {c o}, (zH4 s.heap l m).get? c = some o → (zH5 s.heap l m).get? c = some o := fun e => Heap.get?_push_of_some _ e
  have a5 : (zH5 s.heap l m).get? (zH4 s.heap l m).objs.size = some _ := Heap.get?_push_size _ rfl
  have a4 : (zH5 s.heap l m).get? (zH3 s.heap l m).objs.size = some _ := up (Heap.get?_push_size _ rfl)
  have a3 : (zH5 s.heap l m).get? (zH2 s.heap l m).objs.size = some _ := up (Heap.get?_push_of_some _ (Heap.get?_push_size _ rfl))
  have a2 : (zH5 s.heap l m).get? (zH1 s.heap l).objs.size = some _ := up (Heap.get?_push_of_some _ (Heap.get?_push_of_some _ (Heap.get?_push_size _ rfl)))
  have a1 : (zH5 s.heap l m).get? s.heap.objs.size = some _ := up (Heap.get?_push_of_some _ (Heap.get?_push_of_some _ (Heap.get?_push_of_some _ (Heap.get?_push_size _ rfl))))
  show _ ∧ _
  rw [s2, s3, s4] at a5
  rw [s3] at a4
  rw [s1, s2] at a3
  rw [s1] at a2
  rw [s4]
  refine ⟨⟨_, a5, rfl⟩, q _ ⟨a5, a3, a4⟩ ⟨_, a1, rfl, rfl⟩ ⟨_, a2, rfl, rfl⟩ fun c o e => up (Heap.get?_push_of_some _ (Heap.get?_push_of_some _ (Heap.get?_push_of_some _ (Heap.get?_push_of_some _ e))))⟩
/-! ### the walk over such a zip -/
/-- the tuple at a and the list at b as they stand at each turn -/
def ItzM (K : PySem.W.Frag) (a b : Addr) : It :=
  ⟨fun i H => ∃ (xs ys : List V) (x y : V), (SqT K H a xs ∧ SqL K H b ys) ∧ xs[i]? = some x ∧ ys[i]? = some y,
   fun i H v H' => ∃ t x y, (v = .ref t ∧ H t = none ∧ H' = upd H t (.tup [x, y])) ∧ (∀ xs, SqT K H a xs → xs[i]? = some x) ∧ ∀ ys, SqL K H b ys → ys[i]? = some y,
   fun i H => ∃ xs ys : List V, (SqT K H a xs ∧ SqL K H b ys) ∧ (xs.length ≤ i ∨ ys.length ≤ i)⟩
theorem turn_zipM {P : Program} {w : World} {K : PySem.W.Frag} {elts : List Expr} {kk : Nat} {tpos : Pos} {a b z TI TO i1 i2 : Addr} (D : ZipApart z TI TO i1 i2 a b) :
    Turn P w K (.Tuple elts kk tpos) (ItzM K a b) [z, TI, TO, i1, i2] z (fun i h => (∃ x y, Zst h z TI TO i1 i2 x y .none) ∧ h.IsTupleIter i1 a i ∧ h.IsListIter i2 b i) := by
  have five : ∀ {c : Addr}, c ∈ [z, TI, TO, i1, i2] → c = z ∨ c = TI ∨ c = TO ∨ c = i1 ∨ c = i2 := fun h => by simpa using h
  have off : ∀ {c : Addr}, c ∉ [z, TI, TO, i1, i2] → c ≠ z ∧ c ≠ TI ∧ c ≠ TO ∧ c ≠ i1 ∧ c ≠ i2 := fun h => by simpa using h
  refine ⟨by simp, fun i h st c hc => ?_, fun i h h' st k => ?_, ?_, ?_, fun A i s Q E st h => ?_⟩
  · obtain ⟨⟨x, y, gz, gi, go⟩, ⟨o1, e1, _, d1⟩, o2, e2, _, d2⟩ := st
    rcases five hc with q | q | q | q | q <;> rw [q]
    · exact ⟨_, gz, fun v u => nomatch u⟩
    · exact ⟨_, gi, fun v u => nomatch u⟩
    · exact ⟨_, go, fun v u => nomatch u⟩
    · exact ⟨o1, e1, fun v u => by rw [d1] at u; cases u⟩
    · exact ⟨o2, e2, fun v u => by rw [d2] at u; cases u⟩
  · obtain ⟨⟨x, y, gz, gi, go⟩, n1, n2⟩ := st
    exact ⟨⟨x, y, k z (by simp) _ gz, k TI (by simp) _ gi, k TO (by simp) _ go⟩, n1.at fun o u => k i1 (by simp) o u, n2.at fun o u => k i2 (by simp) o u⟩
  · intro X hP hw hK hc i pins s σ H E I hf st hg
    subst hP hw hK
    obtain ⟨⟨x0, y0, g⟩, n1, n2⟩ := st
    obtain ⟨xs, ys, x, y, ⟨qx, qy⟩, hx, hy⟩ := hg
    obtain ⟨its, rv, pl, _⟩ := I.tuple qx
    obtain ⟨jts, rw', pr, _⟩ := I.list qy
    obtain ⟨u, hu, ru⟩ := rv.get hx
    obtain ⟨v, hv, rv2⟩ := rw'.get hy
    have zl : z < s.heap.objs.size := Heap.lt_size g.z
    have b1 : i1 < s.heap.objs.size := by obtain ⟨_, e, _⟩ := n1; exact Heap.lt_size e
    have b2 : i2 < s.heap.objs.size := by obtain ⟨_, e, _⟩ := n2; exact Heap.lt_size e
    have b3 : a < s.heap.objs.size := by obtain ⟨_, e, _⟩ := pl; exact Heap.lt_size e
    refine pyNext_zipD_item (dr_tup D.l1i1) (dr_lst D.l2i2) D g ⟨n1, pl⟩ ⟨n2, pr.isList⟩ (x := u) (y := v) (by simpa using hu) (by simpa using hv) (fun h' g' m1 m2 ht kp => ?_) b3 pr.lt b1 b2
    refine ⟨_, rfl, wpAny_letOwnedTupleGo_zip (s := { s with heap := h' }) g'.z fun h'' z'' sb => ?_⟩
    have ht2 : h''.get? s.heap.objs.size = some { cls := .type "tuple", data := .seq #[u, v] } := (sb.2 _ (Nat.ne_of_gt zl)).trans ht
    have fresh : ObjOk X.prog X.w (upd H s.heap.objs.size (.tup [x, y])) h'' s.heap.objs.size (.tup [x, y]) := ⟨by show 2 ≤ sizeLine; decide, [u, v], .cons ru (.cons rv2 .nil), ⟨_, ht2, rfl, _, rfl⟩⟩
    have I1 : Inv X pins σ (upd H s.heap.objs.size (.tup [x, y])) { s with heap := h'' } :=
      I.turnedNew (t' := s.toks) (ch := [z, TI, TO, i1, i2]) (fun c o hb e => (sb.2 c (off hb).1).trans (kp c o (off hb).1 (off hb).2.2.1 (off hb).2.2.2.1 (off hb).2.2.2.2 e)) hf (Nat.le_refl _) fresh
    refine ⟨.ref s.heap.objs.size, _, I1, rfl, ⟨_, x, y, ⟨rfl, I.hok.fresh (Nat.le_refl _), rfl⟩, fun l hl => by rw [I.tuple_inj hl qx]; exact hx, fun l hl => by rw [I.list_inj hl qy]; exact hy⟩, ⟨⟨u, v, z'', ?_, ?_⟩, ?_, ?_⟩, fun c hcm => ?_⟩
    · exact (sb.2 _ D.TIz).trans g'.ti
    · exact (sb.2 _ D.TOz).trans g'.to
    · exact m1.1.at fun o e => (sb.2 _ D.i1z).trans e
    · exact m2.1.at fun o e => (sb.2 _ D.i2z).trans e
    · have hlt : c < s.heap.objs.size := by
        rcases five hcm with q | q | q | q | q <;> rw [q]
        · exact zl
        · exact Heap.lt_size g.ti
        · exact Heap.lt_size g.to
        · exact b1
        · exact b2
      rw [upd_ne (Nat.ne_of_lt hlt)]
      exact (hf c hcm).1
  · intro X hP hw hK hc i pins s σ H E I hf st hg
    subst hP hw hK
    obtain ⟨⟨x0, y0, g⟩, n1, n2⟩ := st
    obtain ⟨xs, ys, ⟨qx, qy⟩, hend⟩ := hg
    obtain ⟨its, rv, pl, _⟩ := I.tuple qx
    obtain ⟨jts, rw', pr, _⟩ := I.list qy
    have e1 := rv.length
    have e2 := rw'.length
    have he : its.toArray[i]? = none ∨ jts.toArray[i]? = none := hend.imp (fun q => by simp; omega) fun q => by simp; omega
    exact pyNext_zipD_stop (I.ok.hd hc) (dr_tup D.l1i1) (dr_lst D.l2i2) D g ⟨n1, pl⟩ ⟨n2, pr.isList⟩ he fun h' kp => ⟨rfl, I.turnedL (t' := s.toks) (ch := [z, TI, TO, i1, i2]) (fun c o hb e => kp c o (off hb).1 (off hb).2.2.1 (off hb).2.2.2.1 (off hb).2.2.2.2 e) hf⟩
  · obtain ⟨⟨x, y, g⟩, _⟩ := st
    exact wpAny_pyIter_zip g.z h
/-- zip(t, x): t a tuple, x a list or a tuple -/
def iZipM (K : PySem.W.Frag) (ta : TA) : TI := fun σ H R => ta σ H fun vs H1 => ∃ a b xs ys, vs = [.ref a, .ref b] ∧ SqT K H1 a xs ∧ ((SqL K H1 b ys ∧ R (ItzM K a b) H1) ∨ (SqT K H1 b ys ∧ R (RZ.ItzT K a b) H1))
theorem pi_zipM {X : Cx} {e e2 : Expr} {ta : TA} {p pos tpos : Pos} {elts : List Expr} {kk : Nat} (hg : Gl X "zip") (hm : X.mg "zip" = none) (ha : PA X [e, e2] ta)
    (hs : starEach [e, e2] X.env = (false, eval e X.env) :: starEach [e2] X.env := by rfl) (hpl : (backTo pos (starEach [e2] X.env)).any (·.1) = false := by rfl) :
    PI X (.Tuple elts kk tpos) (.Call (.Name "zip" p) [e, e2] [] pos) (iZipM X.K ta) := by
  refine ⟨fun pins s σ H R I h => ?_⟩
  refine Call_ (ld_blt I hg hm PyProof.Rows.boot_zip (PyProof.Rows.callWith_type1 (thn (ha.run pos pins s σ H _ I h) fun us s1 ⟨vs, H1, I1, r1, a, b, xs, ys, ex, qx, q⟩ => ?_) hs hpl))
  subst ex
  obtain ⟨u, v, rfl, ru, rv⟩ := vals2 r1
  cases ru
  cases rv
  have up : ∀ c, c ∈ [s1.heap.objs.size + 4, s1.heap.objs.size + 2, s1.heap.objs.size + 3, s1.heap.objs.size, s1.heap.objs.size + 1] → FpOk X pins H1 c := fun c hc => by
    have hle : s1.heap.objs.size ≤ c := by
      simp only [List.mem_cons, List.not_mem_nil, or_false] at hc
      omega
    exact I1.fpOk hle (I1.hok.fresh hle)
  obtain ⟨its, _, p1, _⟩ := I1.tuple qx
  have b1 : a < s1.heap.objs.size := by obtain ⟨_, e, _⟩ := p1; exact Heap.lt_size e
  rcases q with ⟨qy, q⟩ | ⟨qy, q⟩
  · obtain ⟨jts, _, p2, _⟩ := I1.list qy
    refine call_zipTL (show s1.heap.IsTuple a its.toArray from p1) p2.isList fun h' g n1 n2 kp => wpAny_pyIter_zip g.z ?_
    exact ⟨s1.heap.objs.size + 4, [s1.heap.objs.size + 4, s1.heap.objs.size + 2, s1.heap.objs.size + 3, s1.heap.objs.size, s1.heap.objs.size + 1], _, _, H1, rfl, I1.kept (t' := s1.toks) (h' := h') kp, turn_zipM (PySem.W.ktu_apart s1.heap.objs.size a b b1 p2.lt), ⟨⟨_, _, g⟩, n1, n2⟩, up, q⟩
  · obtain ⟨jts, _, p2, _⟩ := I1.tuple qy
    have b2 : b < s1.heap.objs.size := by obtain ⟨_, e, _⟩ := p2; exact Heap.lt_size e
    refine RZ.call_zipT (show s1.heap.IsTuple a its.toArray from p1) (show s1.heap.IsTuple b jts.toArray from p2) fun h' gz gi go n1 n2 _ kp => wpAny_pyIter_zip gz ?_
    exact ⟨s1.heap.objs.size + 4, [s1.heap.objs.size + 4, s1.heap.objs.size + 2, s1.heap.objs.size + 3, s1.heap.objs.size, s1.heap.objs.size + 1], _, _, H1, rfl, I1.kept (t' := s1.toks) (h' := h') kp, RZ.turn_zipT (PySem.W.ktu_apart s1.heap.objs.size a b b1 b2), ⟨gz, gi, ⟨_, _, go⟩, n1, n2⟩, up, q⟩
theorem for_zipM {K : PySem.W.Frag} {a b : Addr} {xs ys : List V} {g : TG} {tb : TS} {D : Ends} {σ : L2.St} {H : Hp} (hlen : xs.length = ys.length) (Pv : Nat → L2.St → Hp → Prop) (h0 : Pv 0 σ H) (hx : ∀ i σ H, Pv i σ H → SqT K H a xs) (hy : (∀ i σ H, Pv i σ H → SqL K H b ys) ∨ (∀ i σ H, Pv i σ H → SqT K H b ys))
    (hs : ∀ (i : Nat) (x y : V) (t : Addr) (σ : L2.St) (H : Hp), xs[i]? = some x → ys[i]? = some y → Pv i σ H → H t = none → g (.ref t) σ (upd H t (.tup [x, y])) fun σ2 H2 => tb { D with nx := Pv (i + 1), ct := Pv (i + 1), bk := D.nx } σ2 H2) (hd : ∀ σ H, Pv xs.length σ H → D.nx σ H) :
    (SqL K H b ys ∧ ∃ W : Nat → Nat → L2.St → Hp → Prop, (∃ m, W 0 m σ H) ∧ ∀ i m σ H, W i m σ H → ((ItzM K a b).stop i H ∧ D.nx σ H) ∨ ((ItzM K a b).go i H ∧ ∃ N : L2.St → Hp → Prop, (∀ σ' H', N σ' H' → ∃ m', m' < m ∧ W (i + 1) m' σ' H') ∧ ∀ v H', (ItzM K a b).yld i H v H' → g v σ H' fun σ2 H2 => tb { D with nx := N, ct := N, bk := D.nx } σ2 H2)) ∨
    (SqT K H b ys ∧ ∃ W : Nat → Nat → L2.St → Hp → Prop, (∃ m, W 0 m σ H) ∧ ∀ i m σ H, W i m σ H → ((RZ.ItzT K a b).stop i H ∧ D.nx σ H) ∨ ((RZ.ItzT K a b).go i H ∧ ∃ N : L2.St → Hp → Prop, (∀ σ' H', N σ' H' → ∃ m', m' < m ∧ W (i + 1) m' σ' H') ∧ ∀ v H', (RZ.ItzT K a b).yld i H v H' → g v σ H' fun σ2 H2 => tb { D with nx := N, ct := N, bk := D.nx } σ2 H2)) := by
  rcases hy with hy | hy
  · refine .inl ⟨hy 0 _ _ h0, fun i m σ H => m = xs.length - i ∧ i ≤ xs.length ∧ Pv i σ H, ⟨xs.length, by simp, Nat.zero_le _, h0⟩, ?_⟩
    rintro i m σ H ⟨rfl, hi, p⟩
    have qx := hx i σ H p
    have qy := hy i σ H p
    by_cases hlt : i < xs.length
    · have e1 : xs[i]? = some xs[i] := List.getElem?_eq_getElem hlt
      have e2 : ys[i]? = some ys[i] := List.getElem?_eq_getElem (by omega)
      refine .inr ⟨⟨xs, ys, _, _, ⟨qx, qy⟩, e1, e2⟩, Pv (i + 1), fun σ' H' p' => ⟨xs.length - (i + 1), by omega, rfl, hlt, p'⟩, fun v H' y => ?_⟩
      obtain ⟨t, x', y', ⟨rfl, ht, rfl⟩, f1, f2⟩ := y
      exact hs i x' y' t σ H (f1 xs qx) (f2 ys qy) p ht
    · have e : i = xs.length := by omega
      subst e
      exact .inl ⟨⟨xs, ys, ⟨qx, qy⟩, .inl (Nat.le_refl _)⟩, hd σ H p⟩
  · exact .inr ⟨hy 0 _ _ h0, RZ.for_zipT hlen Pv h0 (fun i σ H p => ⟨hx i σ H p, hy i σ H p⟩) hs hd⟩
end Ru

set_option Elab.async false
set_option linter.all false
set_option maxRecDepth 100000
set_option maxHeartbeats 2000000
/-! more rules: an index in a comprehension, isinstance of two of one's own classes, dicts by names, three dicts -/
namespace Ru
open PySem PySem.Spec PyProof.Rows L2
theorem ix_listK {X : Cx} (K : PySem.W.Frag) (h : X.K = K) : IxR X (rIxL K) := h ▸ ix_list
theorem ix_tupK {X : Cx} (K : PySem.W.Frag) (h : X.K = K) : IxR X (rIxT K) := h ▸ ix_tup
theorem nodup_map_range {α : Type} {f : Nat → α} : ∀ {n : Nat}, (∀ i j, i < n → j < n → f i = f j → i = j) → ((List.range n).map f).Nodup
  | 0, _ => by simp
  | n + 1, h => by
    rw [List.range_succ, List.map_append, List.nodup_append]
    refine ⟨nodup_map_range fun i j hi hj e => h i j (by omega) (by omega) e, by simp, fun a ha b hb e => ?_⟩
    obtain ⟨i, hi, rfl⟩ := List.mem_map.mp ha
    rw [List.map_singleton, List.mem_singleton] at hb
    subst hb
    have hi := List.mem_range.mp hi
    have := h i n (by omega) (by omega) e
    omega
/-! ## isinstance(x, (C, D)), both one's own -/
def rIsO2 (K : PySem.W.Frag) (D1 D2 : Addr) (T : Addr → Bool → Prop) : List V → Hp → VK → Prop := fun xs H Q => ∃ a tp C dx fs b, xs = [.ref a, .ref tp] ∧ H tp = some (.tup [.ref D1, .ref D2]) ∧ H a = some (.ins C dx fs) ∧ T C b ∧ Q (.bl b) H
theorem call_isO2 {X : Cx} {D1 D2 : Addr} {T1 T2 : Addr → Bool → Prop} (h1 : IsT X.K D1 T1) (h2 : IsT X.K D2 T2) : CallR X (.builtin "isinstance") (rIsO2 X.K D1 D2 fun C b => ∃ b1 b2, T1 C b1 ∧ T2 C b2 ∧ b = (b1 || b2)) := by
  intro pins s σ H xs us Q I r hq
  obtain ⟨a, tp, C, dx, fs, b, rfl, ht, ha, ⟨b1, b2, t1, t2, rfl⟩, q⟩ := hq
  obtain ⟨⟨mg, x, c⟩, e1⟩ := h1 C b1 t1
  obtain ⟨_, e2⟩ := h2 C b2 t2
  refine call_isiT pins s σ H _ us Q I r ⟨.ref a, tp, _, _, _, b1 || b2, rfl, ht, .cons (.own D1) (.cons (.own D2) .nil), .base (.ins ha c.cl c.ha c.hn c.htk c.hm), ?_, q⟩
  refine kitAny_cons e1 (fun h => ?_) (fun h => by rw [h]; rfl)
  refine kitAny_cons e2 (fun h' => ?_) (fun h' => by rw [h']; simp)
  rw [h, h']
  rfl
/-! ## dicts of names -/
def keysL {α : Type} (l : List (Str × α)) : List Str := l.map (·.1)
def putL {α : Type} (l : List (Str × α)) (n : Str) (v : α) : List (Str × α) := if n ∈ keysL l then l.map fun p => if p.1 = n then (n, v) else p else l ++ [(n, v)]
def getL {α : Type} (l : List (Str × α)) (n : Str) : Option α := (l.find? fun p => decide (p.1 = n)).map (·.2)
def dL {α : Type} (f : α → V) (l : List (Str × α)) : List (Key × V) := l.map fun p => (.inr p.1, f p.2)
section
variable {α : Type} {f : α → V} {l : List (Str × α)} {n m : Str} {v : α}
theorem dL_any : ((dL f l).any fun kv => decide (kv.1 = (Sum.inr n : Key))) = decide (n ∈ keysL l) := by
  rw [Bool.eq_iff_iff, List.any_eq_true, decide_eq_true_eq]
  unfold dL keysL
  constructor
  · rintro ⟨x, hx, e⟩
    obtain ⟨p, hp, rfl⟩ := List.mem_map.mp hx
    have e : p.1 = n := by simpa using e
    exact List.mem_map.mpr ⟨p, hp, e⟩
  · intro h
    obtain ⟨p, hp, rfl⟩ := List.mem_map.mp h
    exact ⟨_, List.mem_map.mpr ⟨p, hp, rfl⟩, by simp⟩
theorem dL_put : putK (dL f l) (Sum.inr n : Key) (f v) = dL f (putL l n v) := by
  unfold putK putL
  rw [dL_any]
  by_cases h : n ∈ keysL l
  · rw [decide_eq_true h, if_pos rfl, if_pos h]
    unfold dL
    rw [List.map_map, List.map_map]
    apply List.map_congr_left
    intro x _
    simp only [Function.comp]
    by_cases e : x.1 = n
    · rw [if_pos e, if_pos (by rw [e]), e]
    · rw [if_neg e, if_neg (fun q => e (by injection q))]
  · rw [decide_eq_false h, if_neg (by decide), if_neg h]
    simp [dL]
theorem dL_get : ∀ {l : List (Str × α)}, valV (dL f l) (Sum.inr n : Key) = (getL l n).map f
  | [] => rfl
  | (x, a) :: l => by
    by_cases e : x = n
    · subst e
      have h2 : valV (dL f ((x, a) :: l)) (Sum.inr x : Key) = some (f a) := valV_pos rfl
      rw [h2]
      simp [getL]
    · have h2 : valV (dL f ((x, a) :: l)) (Sum.inr n : Key) = valV (dL f l) (Sum.inr n : Key) := valV_neg fun q => e (by injection q)
      rw [h2, dL_get]
      simp [getL, e]
theorem dL_len : (dL f l).length = l.length := by simp [dL]
theorem getL_mem : (∃ v, getL l n = some v) ↔ n ∈ keysL l := by
  unfold getL keysL
  constructor
  · rintro ⟨v, h⟩
    obtain ⟨p, hp, rfl⟩ := Option.map_eq_some_iff.mp h
    have h1 := List.mem_of_find?_eq_some hp
    have h2 := List.find?_some hp
    exact List.mem_map.mpr ⟨p, h1, by simpa using h2⟩
  · intro h
    obtain ⟨p, hp, rfl⟩ := List.mem_map.mp h
    have : (l.find? fun q => decide (q.1 = p.1)).isSome := by
      rw [List.find?_isSome]
      exact ⟨p, hp, by simp⟩
    obtain ⟨q, hq⟩ := Option.isSome_iff_exists.mp this
    exact ⟨q.2, by rw [hq]; rfl⟩
theorem getL_none : getL l n = none ↔ n ∉ keysL l := by
  rw [← getL_mem]
  cases getL l n <;> simp
theorem keys_put (h : n ∈ keysL l) : keysL (putL l n v) = keysL l := by
  unfold putL
  rw [if_pos h]
  unfold keysL
  rw [List.map_map]
  apply List.map_congr_left
  intro x _
  simp only [Function.comp]
  split
  · rename_i e
    exact e.symm
  · rfl
theorem keys_new (h : n ∉ keysL l) : putL l n v = l ++ [(n, v)] := by
  unfold putL
  rw [if_neg h]
theorem keys_put_new (h : n ∉ keysL l) : keysL (putL l n v) = keysL l ++ [n] := by
  rw [keys_new h]
  simp [keysL]
theorem put_le : (putL l n v).length ≤ l.length + 1 := by
  unfold putL
  split <;> simp
theorem len_keys : (keysL l).length = l.length := by simp [keysL]
theorem getL_put : getL (putL l n v) m = if m = n then some v else getL l m := by
  have e := dL_get (f := fun a : α => V.non) (l := putL l n v) (n := m)
  clear e
  unfold putL
  split
  · rename_i h
    by_cases e : m = n
    · subst e
      rw [if_pos rfl]
      obtain ⟨p, hp, e1⟩ := List.mem_map.mp h
      unfold getL
      have : ((l.map fun p => if p.1 = m then (m, v) else p).find? fun p => decide (p.1 = m)) = some (m, v) := by
        clear h
        induction l with
        | nil => cases hp
        | cons x l ih =>
          rw [List.map_cons]
          by_cases hx : x.1 = m
          · rw [if_pos hx]
            simp
          · rw [if_neg hx, List.find?_cons_of_neg (by simpa using hx)]
            rcases List.mem_cons.mp hp with rfl | hp
            · exact absurd e1 hx
            · exact ih hp
      rw [this]
      rfl
    · rw [if_neg e]
      unfold getL
      clear h
      induction l with
      | nil => rfl
      | cons x l ih =>
        rw [List.map_cons]
        by_cases hx : x.1 = n
        · rw [if_pos hx, List.find?_cons_of_neg (by simpa using fun q => e q.symm), ih, List.find?_cons_of_neg (by rw [hx]; simpa using fun q => e q.symm)]
        · rw [if_neg hx]
          by_cases hm : x.1 = m
          · rw [List.find?_cons_of_pos (by simpa using hm), List.find?_cons_of_pos (by simpa using hm)]
          · rw [List.find?_cons_of_neg (by simpa using hm), List.find?_cons_of_neg (by simpa using hm), ih]
  · rename_i h
    unfold getL
    rw [List.find?_append]
    by_cases e : m = n
    · subst e
      rw [if_pos rfl]
      have : (l.find? fun p => decide (p.1 = m)) = none := by
        rw [List.find?_eq_none]
        intro p hp q
        exact h (List.mem_map.mpr ⟨p, hp, by simpa using q⟩)
      rw [this]
      simp
    · rw [if_neg e]
      have : ([(n, v)].find? fun p => decide (p.1 = m)) = none := by
        simp
        exact fun q => e q.symm
      rw [this]
      cases l.find? fun p => decide (p.1 = m) <;> rfl
end
/-! ## for over a list or a tuple, whichever it is -/
def iAny (K : PySem.W.Frag) (te : TE) : TI := fun σ H R => te σ H fun x H1 => ∃ a xs, x = .ref a ∧ ((SqL K H1 a xs ∧ R (Itl K a) H1) ∨ (SqT K H1 a xs ∧ R (Itt K a) H1))
theorem pi_any {X : Cx} {tg l : Expr} {te : TE} (hl : PE X l te) : PI X tg l (iAny X.K te) := by
  refine ⟨fun pins s σ H R I h => ?_⟩
  refine thn (hl.run pins s σ H _ I h) fun v s1 ⟨x, H1, I1, r1, a, xs, ex, q⟩ => ?_
  subst ex
  cases r1
  have fp : ∀ b, b ∈ [s1.heap.objs.size] → FpOk X pins H1 b := fun b hb => by
    rw [List.mem_singleton.mp hb]
    exact I1.fpOk (Nat.le_refl _) (I1.hok.fresh (Nat.le_refl _))
  rcases q with ⟨hq, q⟩ | ⟨hq, q⟩
  · obtain ⟨its, _, pl, _⟩ := I1.list hq
    exact wpAny_pyIter_list pl.isList ⟨_, [s1.heap.objs.size], _, _, H1, rfl, I1.kept (t' := s1.toks) fun b o e => Heap.get?_push_of_some _ e, turn_list a _, ⟨_, Heap.get?_push_size _ rfl, rfl, rfl⟩, fp, q⟩
  · obtain ⟨its, _, pt, _⟩ := I1.tuple hq
    exact wpAny_pyIter_tuple (show s1.heap.IsTuple a its.toArray from pt) ⟨_, [s1.heap.objs.size], _, _, H1, rfl, I1.kept (t' := s1.toks) fun b o e => Heap.get?_push_of_some _ e, turn_tuple a _, ⟨_, Heap.get?_push_size _ rfl, rfl, rfl⟩, fp, q⟩
/-- a list or a tuple -/
def Sq (K : PySem.W.Frag) (H : Hp) (a : Addr) (xs : List V) : Prop := SqL K H a xs ∨ SqT K H a xs
/-- a loop over what is a list or a tuple -/
theorem for_any {K : PySem.W.Frag} {a : Addr} {xs : List V} {g : TG} {tb : TS} {D : Ends} {σ : L2.St} {H : Hp} (Pv : Nat → L2.St → Hp → Prop) (h0 : Pv 0 σ H) (hl : (∀ i σ H, i ≤ xs.length → Pv i σ H → SqL K H a xs) ∨ (∀ i σ H, i ≤ xs.length → Pv i σ H → SqT K H a xs))
    (hs : ∀ i x σ H, xs[i]? = some x → Pv i σ H → g x σ H fun σ2 H2 => tb { D with nx := Pv (i + 1), ct := Pv (i + 1), bk := D.nx } σ2 H2) (hd : ∀ σ H, Pv xs.length σ H → D.nx σ H) :
    (SqL K H a xs ∧ ∃ W : Nat → Nat → L2.St → Hp → Prop, (∃ m, W 0 m σ H) ∧ ∀ i m σ H, W i m σ H → ((Itl K a).stop i H ∧ D.nx σ H) ∨ ((Itl K a).go i H ∧ ∃ N : L2.St → Hp → Prop, (∀ σ' H', N σ' H' → ∃ m', m' < m ∧ W (i + 1) m' σ' H') ∧ ∀ x H', (Itl K a).yld i H x H' → g x σ H' fun σ2 H2 => tb { D with nx := N, ct := N, bk := D.nx } σ2 H2)) ∨
    (SqT K H a xs ∧ ∃ W : Nat → Nat → L2.St → Hp → Prop, (∃ m, W 0 m σ H) ∧ ∀ i m σ H, W i m σ H → ((Itt K a).stop i H ∧ D.nx σ H) ∨ ((Itt K a).go i H ∧ ∃ N : L2.St → Hp → Prop, (∀ σ' H', N σ' H' → ∃ m', m' < m ∧ W (i + 1) m' σ' H') ∧ ∀ x H', (Itt K a).yld i H x H' → g x σ H' fun σ2 H2 => tb { D with nx := N, ct := N, bk := D.nx } σ2 H2)) := by
  rcases hl with hl | hl
  · exact .inl ⟨hl 0 _ _ (Nat.zero_le _) h0, for_list Pv h0 hl hs hd⟩
  · exact .inr ⟨hl 0 _ _ (Nat.zero_le _) h0, for_tup Pv h0 hl hs hd⟩
end Ru

set_option Elab.async false
set_option linter.all false
set_option maxRecDepth 100000
set_option maxHeartbeats 2000000
/-! a method that may raise, called in a try's body -/
namespace Ru
open PySem PySem.Spec PyProof.Rows L2
/-- o.m(..) where what it raises is handled by the slots -/
def tMethS (T : Addr → Prop) (m : Str) (sp : Addr → Sp) (E : L2.St → XK) (ta : TE) (t : TA) : TE := fun σ H Q => ta σ H fun x H1 => ∃ a C dx fs, x = .ref a ∧ H1 a = some (.ins C dx fs) ∧ T C ∧ fs.lookup m = none ∧ t σ H1 fun vs H2 => sp C (x :: vs) H2 Q (E σ)
section
variable {X : Cx} {W : WX} {j k : Nat} {ps : List Str} {sp : Addr → Sp} {T : Addr → Prop} {m : Str} {p pos apos : Pos} {e o : Expr} {es : List Expr} {ta : TE} {t : TA}
theorem pe_methT {pl : Sem Bool} (D : DispAt X.prog X.w X.K X.mg X.base (L2.CX X.prog X.w) T m k ps sp) (hr : Room j X.A) (tk : L2.Takes X W) (he : PE X o ta) (ha : PA X (e :: es) t) (hj : k ≤ j := by decide)
    (hst : starEach (e :: es) X.env = (false, eval e X.env) :: starEach es X.env := by rfl) (hpl : (backTo pos (starEach es X.env)).any (·.1) = false := by rfl)
    (ht : eval (.Call (.Attribute o m apos) (e :: es) [] pos) X.env = (do
      let ov ← eval o X.env
      standAt apos.atName
      let (f, first) ← holding [ov] (getMethod ov m pl)
      callWith pos f first (backTo pos (starEach (e :: es) X.env)) (backToKw pos (keywordEach [] X.env))) := by rfl) :
    PE X (.Call (.Attribute o m apos) (e :: es) [] pos) (tMethS T m sp (WE W) ta t) := by
  refine ⟨fun pins s σ H Q I h => ?_⟩
  refine PySem.W.methodCall_KW (pl := pl) (thn (he.run pins s σ H _ I h) ?_) ht
  rintro u s1 ⟨x, H1, I1, rx, a, C, dx, fs, rfl, ea, tc, l, q⟩
  obtain rfl : u = Value.ref a := rx
  obtain ⟨f, fd, c, hm, hb, F⟩ := D.ex C tc
  refine getmeth_ok I1 ea c hm l ?_
  refine PySem.W.callWith_K (first := [.ref a]) (h₀ := X.base) I.ok.mod.kin hm.kp (thn (ha.run pos pins s1 σ H1 _ I1 q) ?_) hst hpl
  rintro us s2 ⟨vs, H2, I2, r, q2⟩
  exact ⟨I2.kIn, L2.run_fnS (us := .ref a :: us) (vs := .ref a :: vs) (E := WE W) (F.mono hj) hr hb (L2.passAt tk σ) I2 (.cons rfl r) q2⟩
end
section
variable {K : PySem.W.Frag} {mg mg' : Str → Option Value} {x y : Str} {C D L M : Addr}
theorem ExcAt.self (T : ExcAt K mg x C L) : PySem.W.exmOne K (.ref C) (.ref C) = some true := by
  refine PySem.W.exm_ref T.is_.hs T.is_.hd T.tP ?_
  rw [T.subs]
  congr 1
  simp
end
/-! ### in a comprehension's element -/
theorem call_tuple_ofK {X : Cx} (K : PySem.W.Frag) (h : X.K = K) : CallR X (.type "tuple") (fun xs H Q => ∃ p ys, xs = [.ref p] ∧ ((SqL K H p ys ∧ ∀ l, H l = none → Q (.ref l) (upd H l (.tup ys))) ∨ (SqT K H p ys ∧ Q (.ref p) H))) := h ▸ call_tuple_of
theorem call_list_ofK {X : Cx} (K : PySem.W.Frag) (h : X.K = K) : CallR X (.type "list") (fun xs H Q => ∃ p ys, xs = [.ref p] ∧ (SqL K H p ys ∨ SqT K H p ys) ∧ ∀ l, H l = none → Q (.ref l) (upd H l (.lst ys))) := h ▸ call_list_of
theorem call_len_seqK {X : Cx} (K : PySem.W.Frag) (h : X.K = K) : CallR X (.builtin "len") (fun xs H Q => ∃ p ys, xs = [.ref p] ∧ (SqL K H p ys ∨ SqT K H p ys) ∧ Q (.int ys.length) H) := h ▸ call_len_seq
/-- what stood while something was locked stands behind it -/
theorem lock_same {H H' : Hp} {d : Addr} {od : Obj} {u : HO} (h : H d = some u) (s : Same (upd H d (.frz od u)) H') : Same H (upd H' d u) := fun b o e => by
  by_cases hb : b = d
  · subst hb
    rw [h] at e
    cases e
    exact upd_same
  · rw [upd_ne hb]
    exact s b o (by rw [upd_ne hb]; exact e)
theorem lock_at {H : Hp} {d b : Addr} {od : Obj} {u o : HO} (n : b ≠ d) (h : H b = some o) : upd H d (.frz od u) b = some o := by rw [upd_ne n]; exact h
end Ru

set_option Elab.async false
set_option linter.all false
set_option maxRecDepth 100000
set_option maxHeartbeats 2000000
/-! enumerate(list or tuple) -/
namespace PySem
open Sem (wp)
open AutoSeq1 (wpAny_loadPart')
theorem meets_enumerate_newT (l : Addr) (items : Array Value) (n : Nat) (dct : Option Addr) (sl : Array (Option Value)) :
    Meets (Builtin.«enumerate.__new__» ⟨[.type "enumerate", .ref l], []⟩) (fun _ R s => s.heap.get? l = some { cls := .type "tuple", dict := dct, data := .seq items n, slots := sl } ∧
      R (.ok (.ret (.ref (s.heap.push { cls := .type "tuple_iterator", data := .fields #[.ref l, .int 0 0] }).objs.size)))
        { s with heap := (s.heap.push { cls := .type "tuple_iterator", data := .fields #[.ref l, .int 0 0] }).push { cls := .type "enumerate", data := .fields #[.none, .bool false, .ref s.heap.objs.size, rawInt 0, .none, .none] } }) :=
  .of_wp fun prog w A R s h => by
    obtain ⟨hp, g, d, tk, os⟩ := s; obtain ⟨hl, h⟩ := h
    have hsub := sub_enumerate
    have hL : Heap.IsTuple (Shared.heap ⟨hp, g, d, tk, os⟩) l items := ⟨_, hl, rfl, n, rfl⟩
    wp_walk using wpAny_loadPart' hl
    refine wpAny_stack_any fun st => wpAny_pure ?_
    split
    · rename_i c _ _ _ _ _
      cases (c == Value.type "enumerate")
      · wp_walk using wpAny_loadPart' hl, wpAny_pyIter_tuple hL
        exact ⟨_, rfl, h⟩
      · wp_walk using wpAny_loadPart' hl, wpAny_pyIter_tuple hL
        exact ⟨_, rfl, h⟩
    · wp_walk using wpAny_loadPart' hl, wpAny_pyIter_tuple hL
      exact ⟨_, rfl, h⟩
theorem call_enumerate_tuple {prog : Program} {w : World} {A : Around} {E : Value → Shared → Prop} {s : Shared} {l : Addr} {items : Array Value} {Q : Value → Shared → Prop} (hL : s.heap.IsTuple l items)
    (h : ∀ h', IsEnum h' (s.heap.objs.size + 1) s.heap.objs.size 0 .none → h'.IsTupleIter s.heap.objs.size l 0 → h'.objs.size = s.heap.objs.size + 2 →
      (∀ b o, s.heap.get? b = some o → h'.get? b = some o) → Q (.ref (s.heap.objs.size + 1)) { s with heap := h' }) :
    wpAny (model prog w) A (call (.type "enumerate") [.ref l]) Q E s := by
  obtain ⟨⟨c, dct, dt, sl⟩, hl, hc, n, hd⟩ := hL
  replace hc : c = .type "tuple" := hc
  replace hd : dt = .seq items n := hd
  subst hc hd
  refine callType_new F.called_enumerate (by decide) (F.typeCall_enumerate_1 _) (F.newCall_enumerate_1 _) (fun obj => F.args_object_init_2 obj _) F.entry_enumerate_new
    (meets_enumerate_newT l items n dct sl) ⟨hl, ?_⟩
  have hz : (s.heap.push { cls := .type "tuple_iterator", data := .fields #[.ref l, .int 0 0] }).objs.size = s.heap.objs.size + 1 := Heap.size_push ..
  show _ ∧ _
  rw [hz]
  have he : IsEnum ((s.heap.push { cls := .type "tuple_iterator", data := .fields #[.ref l, .int 0 0] }).push
      { cls := .type "enumerate", data := .fields #[.none, .bool false, .ref s.heap.objs.size, rawInt 0, .none, .none] }) (s.heap.objs.size + 1) s.heap.objs.size 0 .none := by
    have := Heap.get?_push_size (s.heap.push { cls := .type "tuple_iterator", data := .fields #[.ref l, .int 0 0] })
      (o := { cls := .type "enumerate", data := .fields #[.none, .bool false, .ref s.heap.objs.size, rawInt 0, .none, .none] }) rfl
    rw [hz] at this; exact this
  refine ⟨⟨_, he, rfl⟩, h _ he ⟨_, Heap.get?_push_of_some _ (Heap.get?_push_size _ rfl), rfl, rfl⟩ (by rw [Heap.size_push, hz]) fun b o x => Heap.get?_push_of_some _ (Heap.get?_push_of_some _ x)⟩
theorem wpAny_pyNext_enum_endT {prog : Program} {w : World} {A : Around} {E : Value → Shared → Prop} {s : Shared} {e it l : Addr} {i : Nat} {items : Array Value} {old : Value} {Q : Option Value → Shared → Prop} (hh : A.handled = none)
    (he : IsEnum s.heap e it i old) (hit : s.heap.IsTupleIter it l i) (hl : s.heap.IsTuple l items) (hx : items[i]? = none)
    (hQ : ∀ h', Heap.ExtBut it s.heap h' → Q none { s with heap := h' }) : wpAny (model prog w) A (pyNext (.ref e)) Q E s := by
  have hT : s.TypeIs (.ref e) "enumerate" := ⟨_, he, rfl⟩
  unfold pyNext
  refine wpAny_bind (wpAny_attempt (wpAny_callSpecial?_slot (name := Str.ofString "__next__") hT F.slot_enumerate_next
    (wpAny_call_entry F.slot_enumerate_next hT F.entry_enumerate_next ?_ (F.args_enumerate_next_1 _))))
  show wpAny _ _ (field (.ref e) 2 >>= _) _ _ _
  refine wpAny_bind (wpAny_field he rfl (x := .ref it) rfl ?_)
  refine wpAny_bind (wpAny_nextOf_tuple_end hh hit hl hx fun h' x he' hx' => ?_)
  obtain ⟨o, ho, hc⟩ := hx'
  refine wpAny_bind (wpAny_isInstance (T := "StopIteration") (b := true) ⟨o, ho, hc⟩ isSubtype_stop ?_)
  exact wpAny_pure (hQ _ he')
end PySem
namespace Ru
open PySem PySem.Spec PyProof.Rows L2
/-- the tuple at a as it stands at each turn, each item in a new pair -/
def IteT (K : PySem.W.Frag) (a : Addr) : It :=
  ⟨fun i H => ∃ (xs : List V) (x : V), SqT K H a xs ∧ xs[i]? = some x, fun i H v H' => ∃ T x, v = .ref T ∧ H T = none ∧ H' = upd H T (.tup [.int (i : Nat), x]) ∧ ∀ xs, SqT K H a xs → xs[i]? = some x, fun i H => ∃ xs : List V, SqT K H a xs ∧ xs.length ≤ i⟩
theorem turn_enumT {P : Program} {w : World} {K : PySem.W.Frag} {elts : List Expr} {kk : Nat} {tpos : Pos} (a e it : Addr) :
    Turn P w K (.Tuple elts kk tpos) (IteT K a) [e, it] e (fun i h => (∃ old, IsEnum h e it ((i : Nat) : Int) old) ∧ h.IsTupleIter it a i ∧ e ≠ it) where
  mem := by simp
  obj := fun i h st b hb => by
    obtain ⟨⟨old, he⟩, ⟨o, ho, hc, hd⟩, _⟩ := st
    have e' : b = e ∨ b = it := by simpa using hb
    rcases e' with z | z
    · rw [z]; exact ⟨_, he, fun v q => nomatch q⟩
    · rw [z]; exact ⟨o, ho, fun v q => by rw [hd] at q; cases q⟩
  keep := fun i h h' st k => let ⟨⟨old, he⟩, hi, hne⟩ := st; ⟨⟨old, k e (by simp) _ he⟩, hi.at fun o q => k it (by simp) o q, hne⟩
  item := by
    intro X hP hw hK hc i pins s σ H E I hf st hg
    subst hP hw hK
    obtain ⟨⟨old, he⟩, hit, hne⟩ := st
    obtain ⟨xs, x, hq, hx⟩ := hg
    obtain ⟨its, rv, p, hz⟩ := I.tuple hq
    obtain ⟨u, hu, ru⟩ := rv.get hx
    have hel : e < s.heap.objs.size := Heap.lt_size he
    have hil : it < s.heap.objs.size := by obtain ⟨_, q, _⟩ := hit; exact Heap.lt_size q
    have pT : s.heap.IsTuple a its.toArray := p
    have hal : a ≠ it := fun z => by
      obtain ⟨o, ho, hcl, _⟩ := hit
      obtain ⟨o2, ho2, hcl2, _⟩ := pT
      rw [z, ho] at ho2
      cases ho2
      rw [hcl] at hcl2
      exact absurd hcl2 (by simp)
    have hae : e ∉ [it, a] := fun z => by
      rcases List.mem_cons.mp z with z | z
      · exact hne z
      · have z := List.mem_singleton.mp z
        obtain ⟨o2, ho2, hcl2, _⟩ := pT
        rw [← z, he] at ho2
        cases ho2
        exact absurd hcl2 (by simp)
    have hlt : i < its.toArray.size := by
      have := (List.getElem?_eq_some_iff.mp hu).1
      simpa using this
    refine wpAny_pyNext_enum_itemD (Draws.tuple (prog := X.prog) (w := X.w) (A := X.A.in1) (I.ok.hd hc) it a hal its.toArray) he ⟨hit, pT⟩ hlt hne hae fun u' h' tk hu' ho hst hT hsz hk => ?_
    have hu' : its.toArray[i]? = some u' := hu'
    have eu : u' = u := by
      have : its.toArray[i]? = some u := by simpa using hu
      rw [hu'] at this
      cases this
      rfl
    subst eu
    refine ⟨_, rfl, wpAny_letOwnedTupleGo_enum (s := { s with heap := h', toks := tk + 1 }) ho fun h'' he' sb => ?_⟩
    have hT2 : h''.get? s.heap.objs.size = some { cls := .type "tuple", data := .seq #[.int i tk, u'] } := (sb.2 _ (Nat.ne_of_gt hel)).trans hT
    have new : ObjOk X.prog X.w (upd H s.heap.objs.size (.tup [.int (i : Nat), x])) h'' s.heap.objs.size (.tup [.int (i : Nat), x]) :=
      ⟨by show 2 ≤ sizeLine; decide, [.int i tk, u'], .cons ⟨_, rfl⟩ (.cons ru .nil), ⟨_, hT2, rfl, _, rfl⟩⟩
    have I1 : Inv X pins σ (upd H s.heap.objs.size (.tup [.int (i : Nat), x])) { s with heap := h'', toks := tk + 1 } :=
      I.turnedNew (ch := [e, it]) (fun b ob hb q => (sb.2 b (fun z => hb (by simp [z]))).trans (hk b ob (fun z => hb (by simp [z])) (fun z => hb (by simp [z])) q)) hf (Nat.le_refl _) new
    have hit' : h'.IsTupleIter it a (i + 1) := hst.1
    refine ⟨.ref s.heap.objs.size, _, I1, rfl, ⟨_, x, rfl, I.hok.fresh (Nat.le_refl _), rfl, fun ys hy => by rw [I.tuple_inj hy hq]; exact hx⟩, ⟨⟨u', ?_⟩, hit'.at fun o q => (sb.2 it (Ne.symm hne)).trans q, hne⟩, fun b hb => ?_⟩
    · have e1 : ((i + 1 : Nat) : Int) = (i : Int) + 1 := by omega
      rw [e1]; exact he'
    · have hb' : b < s.heap.objs.size := by
        have e' : b = e ∨ b = it := by simpa using hb
        rcases e' with z | z
        · rw [z]; exact hel
        · rw [z]; exact hil
      rw [upd_ne (Nat.ne_of_lt hb')]
      exact (hf b hb).1
  done := by
    intro X hP hw hK hc i pins s σ H E I hf st hg
    subst hP hw hK
    obtain ⟨⟨old, he⟩, hit, hne⟩ := st
    obtain ⟨xs, hq, hx⟩ := hg
    obtain ⟨its, rv, p, hz⟩ := I.tuple hq
    obtain ⟨f0, f1, f2, f3, f4, f5⟩ := hf it (by simp)
    have hl := rv.length
    have pT : s.heap.IsTuple a its.toArray := p
    exact wpAny_pyNext_enum_endT (I.ok.hd hc) he hit pT (by simp; omega) fun h' eb => ⟨rfl, I.turned (t' := s.toks) (fun b o hb q => eb b o hb q) f0 f1 f3 f4 f5⟩
  self := fun A i s Q E st h => let ⟨⟨_, he⟩, _⟩ := st; wpAny_pyIter_enum he h
def iEnumA (K : PySem.W.Frag) (ta : TA) : TI := fun σ H R => ta σ H fun vs H1 => ∃ a xs, vs = [.ref a] ∧ ((SqL K H1 a xs ∧ R (Ite K a) H1) ∨ (SqT K H1 a xs ∧ R (IteT K a) H1))
theorem pi_enumA {X : Cx} {e : Expr} {ta : TA} {p pos tpos : Pos} {elts : List Expr} {kk : Nat} (hg : Gl X "enumerate") (hm : X.mg "enumerate" = none) (ha : PA X [e] ta) (hs : starEach [e] X.env = [(false, eval e X.env)] := by rfl) :
    PI X (.Tuple elts kk tpos) (.Call (.Name "enumerate" p) [e] [] pos) (iEnumA X.K ta) := by
  refine ⟨fun pins s σ H R I h => ?_⟩
  refine Call_ (ld_blt I hg hm boot_enumerate (PyProof.Rows.callWith_type1 (thn (ha.run pos pins s σ H _ I h) fun us s1 ⟨vs, H1, I1, r1, q1⟩ => ?_) hs rfl))
  obtain ⟨a, xs, ex, q⟩ := q1
  subst ex
  cases r1 with
  | cons r rr =>
    cases rr
    cases r
    have fin : ∀ {h' : Heap} {R' : It} {tn : Nat → Heap → Prop}, (∀ b o, s1.heap.get? b = some o → h'.get? b = some o) → Turn X.prog X.w X.K (.Tuple elts kk tpos) R' [s1.heap.objs.size + 1, s1.heap.objs.size] (s1.heap.objs.size + 1) tn → tn 0 h' → R R' H1 →
        PIE X pins σ (.Tuple elts kk tpos) R (.ref (s1.heap.objs.size + 1)) { s1 with heap := h' } := fun {h' R' tn} hk T st q => by
      have I2 : Inv X pins σ H1 { s1 with heap := h' } := I1.kept (t' := s1.toks) hk
      refine ⟨s1.heap.objs.size + 1, [s1.heap.objs.size + 1, s1.heap.objs.size], tn, R', H1, rfl, I2, T, st, fun b hb => ?_, q⟩
      have e' : b = s1.heap.objs.size + 1 ∨ b = s1.heap.objs.size := by simpa using hb
      have hle : s1.heap.objs.size ≤ b := by
        rcases e' with z | z
        · rw [z]; exact Nat.le_add_right _ _
        · rw [z]; exact Nat.le_refl _
      exact I1.fpOk hle (I1.hok.fresh hle)
    rcases q with ⟨hq, q⟩ | ⟨hq, q⟩
    · obtain ⟨its, rv, p', hz⟩ := I1.list hq
      exact call_enumerate_list p'.isList fun h' he hit hsz hk => wpAny_pyIter_enum he (fin hk (turn_enum a _ _) ⟨⟨.none, he⟩, hit, Nat.succ_ne_self _⟩ q)
    · obtain ⟨its, rv, p', hz⟩ := I1.tuple hq
      exact call_enumerate_tuple p' fun h' he hit hsz hk => wpAny_pyIter_enum he (fin hk (turn_enumT a _ _) ⟨⟨.none, he⟩, hit, Nat.succ_ne_self _⟩ q)
theorem walk_enumT {K : PySem.W.Frag} {a : Addr} {xs : List V} : Walk (IteT K a) xs.length (fun H => SqT K H a xs) (YPair (fun i => some (.int (i : Nat))) (fun i => xs[i]?)) := by
  refine ⟨fun i _ hi q => ⟨xs, xs[i], q, by simp [hi]⟩, fun _ q => ⟨xs, q, Nat.le_refl _⟩, fun i H v H' _ q y => ?_⟩
  obtain ⟨T, x, h1, h2, h3, h4⟩ := y
  exact ⟨T, _, x, h1, h2, h3, rfl, h4 xs q⟩
end Ru

set_option Elab.async false
set_option linter.all false
set_option maxRecDepth 100000
set_option maxHeartbeats 4000000
/-! tuple * int, from nought -/
namespace Ru
open PySem PySem.Spec PyProof.Rows L2
theorem tuple_mul1 (l : Addr) (items : Array Value) (n : Nat) (sl : Array (Option Value)) (dd : Option Addr) (x : Int) (u : Tok) (hx : x = 1) :
    Meets (Builtin.«tuple.__mul__» ⟨[.ref l, .int x u], []⟩) (fun _ R s => s.heap.get? l = some { cls := .type "tuple", dict := dd, data := .seq items n, slots := sl } ∧ R (.ok (.ret (Value.ref l))) s) :=
  .of_wp fun prog w A R s h => by
    obtain ⟨hp, g, d, tk, os⟩ := s
    obtain ⟨hl, h⟩ := h
    have f1 := AutoSeq1.idx_int
    have c0 : (decide (x < -(2 ^ 63)) || decide (x ≥ 2 ^ 63)) = false := by
      rw [decide_eq_false (by omega), decide_eq_false (by omega)] <;> rfl
    have c1 : (items.isEmpty || x == 1) = true := by rw [hx]; simp
    wp_walk using wpAny_loadPart' hl
    repeat (first
      | (refine wpAny_ite_false (decide_eq_false (by rw [c0]; exact Bool.false_ne_true)) ?_; wp_walk using wpAny_loadPart' hl)
      | (refine wpAny_ite_true (decide_eq_true c1) ?_; wp_walk using wpAny_loadPart' hl))
    exact ⟨_, rfl, h⟩
theorem tuple_mul0 (l : Addr) (items : Array Value) (n : Nat) (sl : Array (Option Value)) (dd : Option Addr) (x : Int) (u : Tok) (hx : x = 0) (hi : items.isEmpty = false) :
    Meets (Builtin.«tuple.__mul__» ⟨[.ref l, .int x u], []⟩) (fun _ R s => s.heap.get? l = some { cls := .type "tuple", dict := dd, data := .seq items n, slots := sl } ∧
      R (.ok (.ret (Value.ref s.heap.objs.size))) { s with heap := s.heap.push { cls := Value.type "tuple", data := Data.seq #[] }, toks := s.toks }) :=
  .of_wp fun prog w A R s h => by
    obtain ⟨hp, g, d, tk, os⟩ := s
    obtain ⟨hl, h⟩ := h
    have f1 := AutoSeq1.idx_int
    have c0 : (decide (x < -(2 ^ 63)) || decide (x ≥ 2 ^ 63)) = false := by
      rw [decide_eq_false (by omega), decide_eq_false (by omega)] <;> rfl
    have c1 : (items.isEmpty || x == 1) = false := by rw [hx, hi]; rfl
    have c2 : (decide (x ≤ 0) || items.isEmpty) = true := by rw [hx, hi]; rfl
    wp_walk using wpAny_loadPart' hl
    repeat (first
      | (refine wpAny_ite_false (decide_eq_false (by rw [c0]; exact Bool.false_ne_true)) ?_; wp_walk using wpAny_loadPart' hl)
      | (refine wpAny_ite_false (decide_eq_false (by rw [c1]; exact Bool.false_ne_true)) ?_; wp_walk using wpAny_loadPart' hl)
      | (refine wpAny_ite_true (decide_eq_true c2) ?_; wp_walk using wpAny_loadPart' hl))
    exact ⟨_, rfl, h⟩
def rRepTA (K : PySem.W.Frag) : R2 := fun x y H Q => ∃ l k xs, x = .ref l ∧ y = .int k ∧ SqT K H l xs ∧ xs ≠ [] ∧ 0 ≤ k ∧ k ≤ 1000 ∧ xs.length ≤ 1000 ∧ (k = 1 → Q (.ref l) H) ∧ (k ≠ 1 → ∀ p, H p = none → Q (.ref p) (upd H p (.tup (List.replicate k.toNat xs).flatten)))
theorem op_repTA {X : Cx} : OpR X (binaryOp .Mult) (rRepTA X.K) := by
  intro pins s σ H x y v u Q I rx ry h
  obtain ⟨l, k, xs, rfl, rfl, hT, hne, h1, h2, hz, q1, q⟩ := h
  by_cases h2k : 2 ≤ k
  · exact op_repT pins s σ H _ _ v u Q I rx ry ⟨l, k, xs, rfl, rfl, hT, hne, h2k, h2, hz, q (by omega)⟩
  cases rx
  obtain ⟨t, rfl⟩ := ry
  obtain ⟨its, r, ⟨⟨cls, dd, data, sl⟩, ho, hc, n, hd⟩, hs⟩ := I.tuple hT
  simp only at hc hd
  subst hc hd
  have hle : its.length = xs.length := r.length.symm
  have hi : its.toArray.isEmpty = false := by
    cases its with
    | nil => exact absurd (List.eq_nil_of_length_eq_zero hle.symm) hne
    | cons a b => rfl
  rcases (show k = 0 ∨ k = 1 by omega) with rfl | rfl
  · refine wpAny_binaryOp_repeat_ref (T := "tuple") (U := "int") (by decide) ⟨_, ho, rfl⟩ (fun s' => typeIs_int s' 0 t) noFill_tuple_mul F.fills_int_mul F.slot_int_rmul repeat_tuple F.slot_int_index.lookup
      (call_meets F.slot_int_rmul (typeIs_int s 0 t) F.entry_int_rmul (F.args_int_rmul_2 _ _) (int_rmul_tuple 0 t l its.toArray n dd sl)
        ⟨ho, rfl, ⟨_, ho, rfl⟩, call_meets F.slot_tuple_mul ⟨_, ho, rfl⟩ F.entry_tuple_mul (F.args_tuple_mul_2 _ _) (tuple_mul0 l its.toArray n sl dd 0 t rfl hi) ⟨ho, ?_⟩⟩)
    refine ⟨.ref s.heap.objs.size, _, I.laid (t' := s.toks) (o := .tup []) (fun b ob q => Heap.get?_push_of_some _ q) (Nat.le_refl _) ?_, rfl, q (by decide) _ (I.hok.fresh (Nat.le_refl _))⟩
    exact ⟨Nat.zero_le _, _, .nil, IsTup.new _ _⟩
  · refine wpAny_binaryOp_repeat_ref (T := "tuple") (U := "int") (by decide) ⟨_, ho, rfl⟩ (fun s' => typeIs_int s' 1 t) noFill_tuple_mul F.fills_int_mul F.slot_int_rmul repeat_tuple F.slot_int_index.lookup
      (call_meets F.slot_int_rmul (typeIs_int s 1 t) F.entry_int_rmul (F.args_int_rmul_2 _ _) (int_rmul_tuple 1 t l its.toArray n dd sl)
        ⟨ho, rfl, ⟨_, ho, rfl⟩, call_meets F.slot_tuple_mul ⟨_, ho, rfl⟩ F.entry_tuple_mul (F.args_tuple_mul_2 _ _) (tuple_mul1 l its.toArray n sl dd 1 t rfl) ⟨ho, ?_⟩⟩)
    exact ⟨.ref l, H, I.tok _, rfl, q1 rfl⟩
end Ru

set_option Elab.async false
set_option linter.all false
set_option maxRecDepth 100000
set_option maxHeartbeats 2000000
/-! tuple(reversed(x)), x a tuple -/
namespace Rv
open PySem PySem.Spec PyProof.Rows L2 RT
theorem no_len : typeLookup (.type "reversed") "__len__" = pure none := by rw [typeLookup_type, builtinLookup_eq_fast] <;> kernel_rfl
theorem slot_hint : Slot "reversed" "__length_hint__" "reversed.__length_hint__" := by
  refine .of (owner := "reversed") (n := "__length_hint__") ?_ ?_ ?_ ?_ ?_ ?_
  · rw [typeLookup_type, builtinLookup_eq_fast] <;> kernel_rfl
  · decide +kernel
  · decide +kernel
  · decide +kernel
  · first | exact Or.inl (by decide +kernel) | exact Or.inr (by decide +kernel)
  · rw [isSubtype_type] <;> kernel_rfl
theorem entry_hint : entryFor table "reversed.__length_hint__" = some Builtin.«reversed.__length_hint__» := by exact entryFor_of_tree (by kernel_rfl)
theorem args_hint (a : Value) : argsOk "reversed.__length_hint__" ⟨[a], []⟩ := by
  unfold argsOk
  rw [signature?_of (id := "reversed.__length_hint__") (n := "__length_hint__".toList.reverse) (o := "reversed".toList.reverse) (by kernel_rfl) owner_rt]
  kernel_rfl
/-- the walk back over a tuple -/
theorem walks {prog : Program} {w : World} {A : Around} (hh : A.handled = none) (I t : Addr) (hne : t ≠ I) (xs : Array Value) (hz : xs.size ≤ sizeLine) :
    Walks prog w A I [I, t] [I] xs.size (fun i v => xs[xs.size - 1 - i]? = some v) (fun i h => i ≤ xs.size ∧ IsRt h I t ((xs.size : Int) - 1 - (i : Int)) ∧ IsTup h t xs) := by
  constructor
  · intro b hb
    rw [List.mem_singleton.mp hb]
    exact List.mem_cons_self
  · rintro i h h' ⟨p1, p2, o, ho, p3⟩ hk
    exact ⟨p1, p2.at fun z => hk I List.mem_cons_self z, o, hk t (List.mem_cons_of_mem _ List.mem_cons_self) o ho, p3⟩
  · rintro i s Q E hi ⟨p1, p2, p3⟩ hQ
    have e1 : (xs.size : Int) - 1 - (i : Int) = ((xs.size - 1 - i : Nat) : Int) := by omega
    have e2 : ((xs.size - 1 - i : Nat) : Int) - 1 = (xs.size : Int) - 1 - ((i + 1 : Nat) : Int) := by omega
    have hx : xs[xs.size - 1 - i]? = some (xs[xs.size - 1 - i]'(by omega)) := Array.getElem?_eq_getElem (by omega)
    refine next_rt_item (e1 ▸ p2) p3 hx hz fun h' a b => ?_
    refine hQ _ h' (s.toks + 1) hx ⟨hi, e2 ▸ a, ?_⟩ fun c o hc eo => b.extBut c o (fun z => hc (List.mem_singleton.mpr z)) eo
    exact p3.extBut b.extBut hne
  · rintro s Q E ⟨p1, p2, p3⟩ hQ
    refine next_rt_end hh (show IsRt s.heap I t (-1) from ?_) fun h' a => hQ h' s.toks fun c o hc eo => a c o (fun z => hc (List.mem_singleton.mpr z)) eo
    have e : (xs.size : Int) - 1 - (xs.size : Int) = -1 := by omega
    exact e ▸ p2
  · rintro i s Q E ⟨p1, p2, p3⟩ hQ
    exact iter_rt p2 hQ
section
variable {prog : Program} {w : World} {A : Around} {E : Value → Shared → Prop} {s : Shared} {I t S : Addr} {xs : Array Value}
theorem int_bind {M : Model} {β : Type} {n : Int} {k : Tok} {f : Option Int → Sem β} {Q : β → Shared → Prop} (h : wpAny M A (f (some n)) Q E s) : wpAny M A (asInt? (.int n k) >>= f) Q E s := wpAny_bind (wpAny_of_eq (a := some n) rfl h)
/-- its length_hint -/
theorem hint {Q : Value → Shared → Prop} (p : IsRt s.heap I t ((xs.size : Int) - 1)) (ht : IsTup s.heap t xs) (hz : xs.size ≤ sizeLine)
    (hQ : ∀ k, Q (.int xs.size k) { s with toks := s.toks + 1 + 1 + 1 }) : wpAny (model prog w) A (call (.builtin "reversed.__length_hint__") [.ref I]) Q E s := by
  obtain ⟨o, ho, hc, hd⟩ := id p
  refine wpAny_call_entry slot_hint p.typeIs entry_hint ?_ (args_hint _)
  unfold Builtin.«reversed.__length_hint__»
  refine wpAny_bind (wpAny_of_eq (a := Value.ref I) rfl (wpAny_bind (wpAny_field ho hd (x := .ref t) rfl ?_)))
  have e0 : (Value.ref t == Value.none) = false := rfl
  rw [e0, if_neg Bool.false_ne_true]
  refine wpAny_bind (len_tuple ht (by have := line63; omega) ?_)
  refine wpAny_bind (wpAny_of_eq (a := some ((xs.size : Nat) : Int)) rfl ?_)
  refine wpAny_bind (wpAny_field (s := { s with toks := s.toks + 1 + 1 }) ho hd (x := rawInt ((xs.size : Int) - 1)) rfl ?_)
  show wpAny _ _ (if ((xs.size : Nat) : Int) < (xs.size : Int) - 1 + 1 then _ else _) _ _ _
  rw [if_neg (by omega), show (xs.size : Int) - 1 + 1 = xs.size by omega]
  refine wpAny_bind (wpAny_mkInt (wpAny_pure ⟨_, rfl, hQ _⟩))
/-- drawn to its end -/
theorem coll {Q : List Value → Shared → Prop} (hh : A.handled = none) (p : IsRt s.heap I t ((xs.size : Int) - 1)) (ht : IsTup s.heap t xs) (hne : t ≠ I) (hz : xs.size ≤ sizeLine)
    (hQ : ∀ (h' : Heap) (tk : Nat) (acc : Array Value), (∀ b o, b ≠ I → s.heap.get? b = some o → h'.get? b = some o) → ItemsOf (fun i v => xs[xs.size - 1 - i]? = some v) acc xs.size → Q acc.toList { s with heap := h', toks := tk }) :
    wpAny (model prog w) A (collect (.ref I)) Q E s := by
  have W := (walks (prog := prog) (w := w) (A := A.in1) hh I t hne xs hz).toS
  obtain ⟨oi, hoi, _⟩ := id p
  obtain ⟨ot, hot, _⟩ := id ht
  have nI : s.heap.objs.size ≠ I := Nat.ne_of_gt (Heap.lt_size hoi)
  have nt : s.heap.objs.size ≠ t := Nat.ne_of_gt (Heap.lt_size hot)
  have nf : s.heap.objs.size ∉ [I, t] := fun m => (List.mem_cons.mp m).elim nI fun m => nt (List.mem_singleton.mp m)
  unfold collect
  refine wpAny_bind (wpAny_runValue (codeAny_builtin F.entry_proto_collect ?_))
  rw [Around.under_plainId F.plain_proto_collect _]
  generalize hS : s.heap.objs.size = S at nI nt nf
  show wpAny _ A.in1 (newList [] >>= fun l' => again (.builtin "list.__iadd__" ⟨[l', .ref I], []⟩)) _ _ s
  refine wpAny_bind (wpAny_newObj_type (wpAny_pure ⟨plainId_quiet F.plain_list_iadd _, codeAny_builtin F.entry_list_iadd ?_⟩))
  rw [Around.under_plainId F.plain_list_iadd _, hS]
  have g1 : (s.heap.push { cls := .type "list", data := .seq ([] : List Value).toArray }).get? S = some { cls := .type "list", data := .seq ([] : List Value).toArray } := hS ▸ Heap.get?_push_size _ rfl
  have k1 : ∀ b o, s.heap.get? b = some o → (s.heap.push { cls := .type "list", data := .seq ([] : List Value).toArray }).get? b = some o := fun b o e => Heap.get?_push_of_some _ e
  have p1 : IsRt (s.heap.push { cls := .type "list", data := .seq ([] : List Value).toArray }) I t ((xs.size : Int) - 1) := p.at fun o e => k1 I o e
  have t1 : IsTup (s.heap.push { cls := .type "list", data := .seq ([] : List Value).toArray }) t xs := ht.keeps k1
  show wpAny _ A.in1 (Builtin.List.listExtendWith (.ref S) (.ref I) (.ref S)) _ _ _
  generalize s.heap.push { cls := .type "list", data := .seq ([] : List Value).toArray } = h1 at g1 k1 p1 t1
  have T1 : ({ s with heap := h1 } : Shared).TypeIs (.ref I) "reversed" := IsRt.typeIs (s := { s with heap := h1 }) p1
  unfold Builtin.List.listExtendWith
  have e1 : Builtin.List.listSameRef (.ref S) (.ref I) = false := beq_eq_false_iff_ne.mpr nI
  refine wpAny_bind (wpAny_typeOf T1 ?_)
  rw [if_neg (by rw [e1]; decide)]
  refine wpAny_bind (iter_rt (s := { s with heap := h1 }) p1 ?_)
  refine wpAny_bind (wpAny_holding ?_)
  unfold Builtin.List.listLengthHint
  refine wpAny_bind (wpAny_specialOf T1 no_len ?_)
  show wpAny _ A.in1 (specialOf (Value.ref I) (Str.ofString "__length_hint__") >>= _) _ _ _
  refine wpAny_bind (wpAny_specialOf T1 slot_hint.lookup ?_)
  generalize hi : ("reversed.__length_hint__" : String) = id0
  wp_delta
  rw [show splitId id0 = some ("reversed", "__length_hint__") from by subst hi; decide +kernel]
  subst hi
  refine wpAny_bind (wpAny_isInstance (b := true) T1 (by rw [isSubtype_type]; kernel_rfl) ?_)
  rw [if_neg (by decide)]
  show wpAny _ A.in1 (if _ then _ else _) _ _ _
  rw [if_neg (by decide +kernel)]
  refine wpAny_bind (wpAny_rule ?_)
  rw [slot_hint.bind]
  refine wpAny_bind (wpAny_pure (wpAny_bind (wpAny_attempt (hint (s := { s with heap := h1 }) p1 t1 hz fun k => ?_))))
  show wpAny _ A.in1 (asInt? (.int xs.size k) >>= _) _ _ _
  refine int_bind ?_
  have f1 : Builtin.List.listFitsIndex ((xs.size : Nat) : Int) = true := by
    have := line63
    unfold Builtin.List.listFitsIndex
    rw [Bool.and_eq_true, decide_eq_true_eq, decide_eq_true_eq]
    exact ⟨by omega, by omega⟩
  have f2 : Builtin.List.listTooLong ((xs.size : Nat) : Int).toNat = false := decide_eq_false (by rw [Int.toNat_natCast]; omega)
  dsimp only
  rw [f1, if_neg (by decide), if_neg (by omega), f2, if_neg (by decide)]
  have st : ∀ h2 : Heap, (∀ b o, b ≠ S → h1.get? b = some o → h2.get? b = some o) → 0 ≤ xs.size ∧ IsRt h2 I t ((xs.size : Int) - 1 - ((0 : Nat) : Int)) ∧ IsTup h2 t xs := fun h2 k => by
    refine ⟨Nat.zero_le _, ?_, ?_⟩
    · rw [show (xs.size : Int) - 1 - ((0 : Nat) : Int) = (xs.size : Int) - 1 by omega]
      exact p1.at fun o e => k I o (Ne.symm nI) e
    · obtain ⟨o, ho, r⟩ := t1
      exact ⟨o, k t o (Ne.symm nt) ho, r⟩
  have fin : ∀ (h2 : Heap) (tk : Nat) (s' : Shared) (acc : Array Value) (c : Nat), (∀ b o, b ≠ S → h1.get? b = some o → h2.get? b = some o) → Moved [S, I] (fun a b => b = a) { s with heap := h2, toks := tk } s' →
      s'.heap.get? S = some { cls := .type "list", dict := none, data := .seq acc c, slots := #[] } → ItemsOf (fun i v => xs[xs.size - 1 - i]? = some v) acc xs.size →
      wpAny (model prog w) A (load S >>= fun o => match o.data with
        | .seq xs _ => pure xs.toList
        | _ => unsupported "internal:collect") Q E s' := by
    intro h2 tk s' acc c k hm g hi
    refine wpAny_bind (wpAny_load g (wpAny_pure ?_))
    rw [Moved.eq_with hm]
    refine hQ _ _ acc (fun b o hb e => hm.heap b o (fun m => ?_) (k b o (fun z => ?_) (k1 b o e))) hi
    · rcases List.mem_cons.mp m with z | m
      · exact absurd (Heap.lt_size e) (by rw [hS, z]; exact Nat.lt_irrefl _)
      · exact hb (List.mem_singleton.mp m)
    · exact absurd (Heap.lt_size e) (by rw [hS, z]; exact Nat.lt_irrefl _)
  refine wpAny_pure ?_
  by_cases h0 : xs.size = 0
  · rw [if_neg (by rw [h0]; decide +kernel)]
    exact wpAny_pure ⟨plainId_quiet F.plain_extend_loop _, codeAny_extend_loopS W hz S nf _ xs.size 0 _ _ _ rfl (Nat.zero_le _) (st h1 fun _ _ _ e => e) g1 (ItemsOf.nil _) fun s' acc c hm g hi => fin h1 _ s' acc c (fun _ _ _ e => e) hm g hi⟩
  · rw [if_pos (by rw [show ((xs.size : Int) != 0) = true from by simp [h0]]; rfl)]
    refine wpAny_bind (wpAny_rule (wpAny_bind ?_))
    show wpAny _ A.in1 (updateSeq S (·.push .none) >>= fun _ => updateSeq S (·.pop)) _ _ _
    have z1 : 1 ≤ sizeLine := by have := line63; omega
    refine wpAny_bind (wpAny_updateSeq g1 rfl ?_ (Nat.zero_le _) (Nat.succ_le_succ (Nat.zero_le _)))
    have g2 := Heap.get?_update_self (Obj.mapSeq (·.push Value.none)) g1 rfl
    refine wpAny_updateSeq g2 rfl ?_ z1 (Nat.zero_le _)
    have g3 := Heap.get?_update_self (Obj.mapSeq (·.pop)) g2 rfl
    have k3 : ∀ b o, b ≠ S → h1.get? b = some o → ((h1.update S (Obj.mapSeq (·.push Value.none))).update S (Obj.mapSeq (·.pop))).get? b = some o := fun b o hb e => by
      rw [Heap.get?_update_other _ _ (Ne.symm hb), Heap.get?_update_other _ _ (Ne.symm hb)]
      exact e
    exact wpAny_pure ⟨plainId_quiet F.plain_extend_loop _, codeAny_extend_loopS W hz S nf _ xs.size 0 _ _ _ rfl (Nat.zero_le _) (st _ k3) g3 (ItemsOf.nil _) fun s' acc c hm g hi => fin _ _ s' acc c k3 hm g hi⟩
/-- tuple(it) -/
theorem code {Q₁ : Value → Shared → Prop} (hh : A.handled = none) (p : IsRt s.heap I t ((xs.size : Int) - 1)) (ht : IsTup s.heap t xs) (hne : t ≠ I) (hz : xs.size ≤ sizeLine)
    (h : ∀ (h' : Heap) (tk : Nat) (acc : Array Value), (∀ b o, b ≠ I → s.heap.get? b = some o → h'.get? b = some o) → ItemsOf (fun i v => xs[xs.size - 1 - i]? = some v) acc xs.size →
      Q₁ (.ref h'.objs.size) { s with heap := h'.push { cls := .type "tuple", data := .seq acc }, toks := tk }) :
    codeAny (model prog w) A (.call (.builtin "tuple.__new__") ⟨[.type "tuple", .ref I], []⟩) (wants Q₁ E) s := by
  refine codeAny_of_tree ?_
  show wpAny _ A.in1 (checkBuiltinCall "tuple.__new__" ⟨[.type "tuple", .ref I], []⟩ >>= fun _ => again (.builtin "tuple.__new__" ⟨[.type "tuple", .ref I], []⟩)) _ _ s
  refine wpAny_bind (wpAny_of_eq (F.newCall_tuple_1 _) (wpAny_pure ⟨plainId_quiet F.plain_tuple_new _, codeAny_builtin F.entry_tuple_new ?_⟩))
  rw [Around.under_plainId F.plain_tuple_new _]
  have sub := sub_tuple_self
  have ini := init_tuple_lookup
  have mad := madeHere_tuple
  have T : s.TypeIs (.ref I) "reversed" := p.typeIs
  have h0 : A.in1.handled = none := hh
  wp_walk using wpAny_typeOf T, coll (A := A.in1) h0 p ht hne hz
  intro h' tk acc k hi
  show wpAny _ _ (Builtin.Tuple.tupleExact acc.toList.toArray >>= fun v => ret v) _ _ _
  rw [show acc.toList.toArray = acc by simp]
  unfold Builtin.Tuple.tupleExact
  exact wpAny_bind (wpAny_newObj_type (wpAny_pure (h h' tk acc k hi)) (show acc.size ≤ sizeLine from hi.1.symm ▸ hz))
theorem call {Q : Value → Shared → Prop} (hh : A.handled = none) (p : IsRt s.heap I t ((xs.size : Int) - 1)) (ht : IsTup s.heap t xs) (hne : t ≠ I) (hz : xs.size ≤ sizeLine)
    (hQ : ∀ (h' : Heap) (tk : Nat) (acc : Array Value), (∀ b o, b ≠ I → s.heap.get? b = some o → h'.get? b = some o) → ItemsOf (fun i v => xs[xs.size - 1 - i]? = some v) acc xs.size →
      Q (.ref h'.objs.size) { s with heap := h'.push { cls := .type "tuple", data := .seq acc }, toks := tk }) : wpAny (model prog w) A (PySem.call (.type "tuple") [.ref I]) Q E s := by
  refine callType_codes (Q₁ := fun obj s₁ => s₁.TypeIs obj "tuple" ∧ Q obj s₁) F.called_tuple (F.typeCall_tuple_1 _) F.entry_object_init (code (A := A.in1) hh p ht hne hz fun h' tk acc k hi => ⟨⟨_, Heap.get?_push_size _ rfl, rfl⟩, hQ h' tk acc k hi⟩) ?_
  rintro obj s₁ ⟨h1, h2⟩
  exact ⟨h1, F.args_object_init_2 obj _, object_init_meets F.called_tuple.init.lookup F.called_tuple.made (by decide) prog w A.in1 _ s₁ ⟨h1, rfl, h2⟩⟩
end
/-! ## the rule -/
/-- tuple(reversed(x)), x a tuple: a new tuple -/
def tTupRevT (K : PySem.W.Frag) (te : TE) : TE := fun σ H Q => te σ H fun v H1 => ∃ (a : Addr) (xs : List V), v = .ref a ∧ SqT K H1 a xs ∧ ∀ q, H1 q = none → Q (.ref q) (upd H1 q (.tup xs.reverse))
section
variable {X : Cx}
theorem pe_tupRevT {e : Expr} {te : TE} {p p2 pos pos2 : Pos} (hc : X.calm = true) (hg : Gl X "tuple") (hm : X.mg "tuple" = none) (hg2 : Gl X "reversed") (hm2 : X.mg "reversed" = none) (he : PE X e te)
    (hs : starEach [e] X.env = (false, eval e X.env) :: starEach [] X.env := by rfl)
    (hs2 : starEach [.Call (.Name "reversed" p2) [e] [] pos2] X.env = (false, eval (.Call (.Name "reversed" p2) [e] [] pos2) X.env) :: starEach [] X.env := by rfl) :
    PE X (.Call (.Name "tuple" p) [.Call (.Name "reversed" p2) [e] [] pos2] [] pos) (tTupRevT X.K te) := by
  refine ⟨fun pins s σ H Q I h => ?_⟩
  refine Call_ (ld_blt I hg hm boot_tuple (PyProof.Rows.callWith_type1 (args_cons (Call_ (ld_blt I hg2 hm2 PyProof.Rows.boot_reversed (PyProof.Rows.callWith_type1 (args_cons (thn (he.run pins s σ H _ I h) fun u s1 ⟨v, H1, I1, r1, q1⟩ => args_nil ?_) hs) hs rfl))) hs2) hs2 rfl))
  obtain ⟨a, xs, rfl, hq, q⟩ := q1
  obtain rfl : u = Value.ref a := r1
  obtain ⟨its, rv, t, hz⟩ := I1.tuple hq
  have hl := rv.length
  have hn : its.toArray.size ≤ sizeLine := by rw [List.size_toArray, ← hl]; exact hz
  refine call_reversed_tup t (fun A E Q k => len_tuple t (by have := line63; omega) k) (args_nil ?_)
  have k0 : ∀ b o, s1.heap.get? b = some o → (s1.heap.push (rtObj a ((its.toArray.size : Int) - 1))).get? b = some o := fun b o e => Heap.get?_push_of_some _ e
  have I2 : Inv X pins σ H1 { s1 with heap := s1.heap.push (rtObj a ((its.toArray.size : Int) - 1)), toks := s1.toks + 1 + 1 } := I1.kept (t' := s1.toks + 1 + 1) k0
  obtain ⟨f0, f1, f2, f3, f4, f5⟩ := I1.fpOk (H' := H1) (b := s1.heap.objs.size) (Nat.le_refl _) (I1.hok.fresh (Nat.le_refl _))
  refine call (s := { s1 with heap := s1.heap.push (rtObj a ((its.toArray.size : Int) - 1)), toks := s1.toks + 1 + 1 }) (I1.ok.hd hc) ⟨_, Heap.get?_push_size _ rfl, rfl, rfl⟩ (t.push _) (Nat.ne_of_lt t.lt) hn fun h' tk acc hk hi => ?_
  have I3 : Inv X pins σ H1 { s1 with heap := h', toks := tk } := I2.turned (t' := tk) (fun b o hb e => hk b o hb e) f0 f1 f3 f4 f5
  refine ⟨.ref h'.objs.size, upd H1 h'.objs.size (.tup xs.reverse), I3.laid (t' := tk) (fun c o e => Heap.get?_push_of_some _ e) (Nat.le_refl _) (show ObjOk X.prog X.w _ _ _ (.tup xs.reverse) from ⟨by rw [List.length_reverse]; exact hz, acc.toList, vals_rev rv hi, ?_⟩), rfl, q _ (I3.hok.fresh (Nat.le_refl _))⟩
  rw [Array.toArray_toList]
  exact IsTup.new _ _
end
end Rv

set_option Elab.async false
set_option linter.all false
set_option maxRecDepth 100000
set_option maxHeartbeats 2000000
namespace Hd
open PySem PySem.Spec PyProof.Rows L2 Ru
section
variable {K : PySem.W.Frag} {h : Heap} {mg : Str → Option Value}
theorem g_of (X : K.In h) (G : h.Ns mainGlobals mg) {x : Str} {a : Addr} (c : gB K x a = true) : mg x = some (.ref a) := PySem.W.mg_of X G (He.eqO_ok c)
theorem no_of (X : K.In h) (G : h.Ns mainGlobals mg) {x : Str} (c : noB K x = true) : mg x = none := PySem.W.mg_none_of X G (He.eqO_ok c)
theorem con_of (X : K.In h) (G : h.Ns mainGlobals mg) {x : Str} {v : V} (c : conB K x v = true) : GlobC mg x v := by
  unfold conB at c
  split at c
  · rename_i u e
    exact globC_mk X G e (He.relB_ok c)
  · cases c
theorem tup_of (X : K.In h) (G : h.Ns mainGlobals mg) {x : Str} {vs : List V} (c : tupB K x vs = true) : GlobT K mg x vs := by
  unfold tupB at c
  split at c
  · rename_i a e
    split at c
    · rename_i k od its n sl q
      obtain ⟨c1, c⟩ := two c
      obtain ⟨c2, c3⟩ := two c
      have ek := of_decide_eq_true c1
      subst ek
      exact globT_mk X G e q (of_decide_eq_true c2) (He.relAll_ok c3)
    · cases c
  · cases c
theorem cls_of (X : K.In h) (G : h.Ns mainGlobals mg) {x : Str} {C : Addr} (c : clsB K x C = true) : ClsAt K mg x C := by
  obtain ⟨a, c⟩ := two c
  obtain ⟨b, c⟩ := two c
  obtain ⟨d, c⟩ := two c
  obtain ⟨e, c⟩ := two c
  obtain ⟨f, c⟩ := two c
  obtain ⟨i, c⟩ := two c
  obtain ⟨j, c⟩ := two c
  obtain ⟨k, c⟩ := two c
  obtain ⟨l, c⟩ := two c
  obtain ⟨m, n⟩ := two c
  exact clsAt_mk X G (He.eqO_ok a) b d e (He.eqO_ok f) (He.eqO_ok i) (He.eqO_ok j) (of_decide_eq_true k) (of_decide_eq_true l) m n
theorem err_of (X : K.In h) (G : h.Ns mainGlobals mg) {x : Str} {C : Addr} (c : errB K x C = true) : ErrAt K mg x C := by
  obtain ⟨a, c⟩ := two c
  obtain ⟨b, c⟩ := two c
  obtain ⟨d, e⟩ := two c
  exact errAt_mk X G (He.eqO_ok a) (of_decide_eq_true b) (of_decide_eq_true d) e
theorem exc_of (X : K.In h) (G : h.Ns mainGlobals mg) {x : Str} {C L : Addr} (c : excB K x C L = true) : ExcAt K mg x C L := by
  obtain ⟨a, c⟩ := two c
  obtain ⟨b, c⟩ := two c
  obtain ⟨d, c⟩ := two c
  obtain ⟨e, c⟩ := two c
  obtain ⟨f, c⟩ := two c
  obtain ⟨i, c⟩ := two c
  obtain ⟨j, c⟩ := two c
  obtain ⟨k, c⟩ := two c
  obtain ⟨l, c⟩ := two c
  obtain ⟨m, c⟩ := two c
  obtain ⟨n, c⟩ := two c
  obtain ⟨o, p⟩ := two c
  unfold mroB at p
  split at p
  · rename_i cd q
    exact excAt_mk X G (He.eqO_ok a) b d (He.eqO_ok e) (He.eqO_ok f) (of_decide_eq_true i) j (He.eqO_ok k) (He.eqO_ok l) (of_decide_eq_true m) (of_decide_eq_true n) (of_decide_eq_true o) q (of_decide_eq_true p)
  · cases p
theorem na_of {C : Addr} {x : Str} (c : naB K C x = true) : NoAttr K C x := He.eqO_ok c
theorem one_of {a b : Addr} {r : Bool} (c : oneB K a b r = true) : PySem.W.kitOne K (.ref a) (.ref b) = some r := of_decide_eq_true c
/-! ## defs -/
theorem def_of (X : K.In h) (G : h.Ns mainGlobals mg) {x : Str} {st : Stmt} {ps : List Str} {f : Addr} (c : gB K x f = true) (F : ∃ fd, FunD K x x (defArgs st) (defBody st) (defScope st) [] [] f fd)
    (b : ∀ (kV doc pm : Value) (an : Option Addr) (cdv ct : Value) (us : List Value), us.length = ps.length → bindArgs (PySem.W.fnOf x x (defArgs st) (defBody st) (defScope st) .none kV doc pm an cdv ct) ⟨us, []⟩ = pure (ps.zip us)) : DefAt K mg x st ps := by
  obtain ⟨fd, F⟩ := F
  obtain ⟨⟨oc, od, kV, doc, pm, an, cdv, ct, osl, e, l, k⟩, kp⟩ := He5.fun_of F
  subst e
  exact defAt_mk X G (He.eqO_ok c) l k kp (b kV doc pm an cdv ct)
theorem law_of (X : K.In h) (G : h.Ns mainGlobals mg) {st : Stmt} {p : Str} {f : Addr} (c : gB K "law" f = true) (F : ∃ fd, FunD K "law" "law" (defArgs st) (defBody st) (defScope st) [] [] f fd)
    (b : ∀ (kV doc pm : Value) (an : Option Addr) (cdv ct : Value) (u : Value), bindArgs (PySem.W.fnOf "law" "law" (defArgs st) (defBody st) (defScope st) .none kV doc pm an cdv ct) ⟨[u], []⟩ = pure [(p, u)]) : LawAt K mg st p := by
  obtain ⟨fd, F⟩ := F
  obtain ⟨⟨oc, od, kV, doc, pm, an, cdv, ct, osl, e, l, k⟩, kp⟩ := He5.fun_of F
  subst e
  exact lawAt_mk X G (He.eqO_ok c) l k kp (b kV doc pm an cdv ct)
theorem met_of {C : Addr} {m qual : Str} {st : Stmt} {ps : List Str} (c : metB K C m = true) (F : ∃ fd, FunD K m qual (defArgs st) (defBody st) (defScope st) [] [] (He.ma K C m) fd)
    (b : ∀ (kV doc pm : Value) (an : Option Addr) (cdv ct : Value) (us : List Value), us.length = ps.length → bindArgs (PySem.W.fnOf m qual (defArgs st) (defBody st) (defScope st) .none kV doc pm an cdv ct) ⟨us, []⟩ = pure (ps.zip us)) : MethAt K C m qual st ps := by
  obtain ⟨fd, F⟩ := F
  obtain ⟨c1, c⟩ := two c
  obtain ⟨c2, c3⟩ := two c
  obtain ⟨⟨oc, od, kV, doc, pm, an, cdv, ct, osl, e, l, k⟩, kp⟩ := He5.fun_of F
  subst e
  exact methAt_mk (He.eqO_ok c1) c2 l k kp (b kV doc pm an cdv ct)
theorem cfn_of {C : Addr} {m qual : Str} {st : Stmt} {ps : List Str} (c : cfnB K C m = true) (F : ∃ fd, FunD K m qual (defArgs st) (defBody st) (defScope st) [] [] (ca K C m) fd)
    (b : ∀ (kV doc pm : Value) (an : Option Addr) (cdv ct : Value) (us : List Value), us.length = ps.length → bindArgs (PySem.W.fnOf m qual (defArgs st) (defBody st) (defScope st) .none kV doc pm an cdv ct) ⟨us, []⟩ = pure (ps.zip us)) : ClsFnAt K C m qual st ps := by
  obtain ⟨fd, F⟩ := F
  obtain ⟨c1, c⟩ := two c
  obtain ⟨c2, c3⟩ := two c
  obtain ⟨⟨oc, od, kV, doc, pm, an, cdv, ct, osl, e, l, k⟩, kp⟩ := He5.fun_of F
  subst e
  refine clsFnAt_mk c1 (He.eqO_ok c2) ?_ l k kp (b kV doc pm an cdv ct)
  unfold ca
  split at c3
  · rename_i f q
    rw [q]
  · cases c3
end
/-! ## a law's end -/
theorem walk {l : PySem.W.OpenLaw} {q : Program} {loose : List Str} {XP : (Str → Option Value) → Heap → Prop} {d : DefRec} {n : List Addr} {k : Nat} {p : Str} {B : PySem.W.Frag → List Bool} {fn : List He5.DefA} (hr : Room k callerA) (hn : l.most = some 63) (hdf : d.params.defaults = []) (hd : d.name = ("law" : Str))
    (F : ∀ (w : World) (mg : Str → Option Value) (fa : Addr) (h : Heap) (K : PySem.W.Frag), K.In h → h.Ns mainGlobals mg → mg "law" = some (.ref fa) → Says B fn K →
      ∃ fd : FuncData, (∀ (s : Shared) (u : Value), BindsTo s fd ⟨[u], []⟩ [(p, u)]) ∧ ∀ base : Heap, K.In base → base.Ns mainGlobals mg → FnOk l.prog w K mg base CX0 k fa fd [p] (spLaw K)) :
    PySem.W.WalkO q loose XP (hook n B fn).says l.row.toRowW d [] (fun f vs => PySem.call f vs) :=
  L2.walk_ofE (n := 63) (CX := CX0) hn (by decide) hdf hr (fun w mg fa h Y G hmg => by
    obtain ⟨K, X, c⟩ := Y
    rw [hd] at hmg
    obtain ⟨fd, hb, ok⟩ := F w mg fa h K X G hmg c
    exact ⟨K, fd, spLaw K, X, hb, fun H a ns hl _ hS => ⟨a, ns, rfl, hS, hl, fun _ => rfl⟩, ok⟩) fun _ _ _ _ z => z
end Hd

set_option Elab.async false
set_option linter.all false
set_option maxRecDepth 100000
set_option maxHeartbeats 2000000
section
open PySem L2 Ru
local macro_rules | `(tactic| walk_at "rd") => `(tactic| try simp only [tSeq, tAsg, gName, tVar, tC, tOp, rI, rI0, tRet, tDrop, tIfS, tTest, tB, tAndV, tOrV, tNotV, tAnd, tOr, tNot, tIf, tCall, tCons, tNil, tCB, tAug, rEq, rNe, tNext, tRetN, L2.start, List.map_cons, List.map_nil, List.length_cons, List.length_nil, List.replicate, List.cons_append, List.nil_append, List.append_nil, List.getElem?_cons_zero, List.getElem?_cons_succ, List.set_cons_zero, List.set_cons_succ, Option.some.injEq, V.int.injEq, V.str.injEq, V.bl.injEq, V.ref.injEq, List.cons.injEq, exists_eq_left, exists_eq_left', exists_eq_right, exists_and_left, exists_const, true_and, and_true, CDiv, CMul, Int.reduceLT, Int.reduceLE, Int.reducePow, Int.reduceNeg, true_or, or_true, wipe, gcons_eq, gnil_eq, cxOf_K, tSl, rSlS, tLst, tTup, rIsF, isBlV, isIntV, flat_s, flat_i, flat_b, flat_n, rIsB, rNotB, tPart, tNoPart, rIxS, reduceCtorEq, false_and, and_false, false_or, or_false, scal_ii, scal_bb, scal_ss, scal_sb, scal_bs, decide_true, decide_false, if_true, if_false, Bool.false_eq_true, Bool.not_true, Bool.not_false, ite_true, ite_false])

namespace My
theorem z_set : True := trivial
def top (i : Nat) : Stmt := PySem.Challenge.pw_rungworks_k52_rows_by_numbers.main.body.getD i (.Pass ⟨0, 0, 0, 0⟩)
/-! ## names -/
def isLow (c : Nat) : Bool := decide (97 ≤ c ∧ c ≤ 122)
def isWord (z : Str) : Bool := z.cps.toList.all isLow && !z.cps.toList.isEmpty
abbrev sSIGNS : Str := "abcdefghijklmnopqrstuvwxyz"
def keptL : List Str := ["on", "off", "and", "or", "not", "set", "reset", "timer", "counter", "inputs", "outputs"]
def keptV : List V := keptL.map V.str
def isName (z : Str) : Bool := isWord z && decide (z.length ≤ 8) && !decide (z ∈ keptL)
theorem signs_cps : sSIGNS.cps.toList = (List.range 26).map (· + 97) := by decide +kernel
theorem mem_signs {c : Nat} : c ∈ sSIGNS.cps.toList ↔ isLow c = true := by
  rw [signs_cps, List.mem_map]
  unfold isLow
  rw [decide_eq_true_eq]
  constructor
  · rintro ⟨a, h, rfl⟩
    rw [List.mem_range] at h
    omega
  · intro h
    exact ⟨c - 97, List.mem_range.mpr (by omega), by omega⟩
theorem dec_signs {c : Nat} : decide (c ∈ sSIGNS.cps.toList) = isLow c := by
  rw [Bool.eq_iff_iff, decide_eq_true_eq]
  exact mem_signs
theorem inV_strs (z : Str) : ∀ l : List Str, inV (.str z) (l.map V.str) = decide (z ∈ l)
  | [] => by simp [inV]
  | x :: l => by
    have ih := inV_strs z l
    unfold inV at ih ⊢
    rw [List.map_cons, List.any_cons, ih]
    rw [Bool.eq_iff_iff]
    simp [eqV]
    constructor
    · rintro (h | h)
      · exact .inl h.symm
      · exact .inr h
    · rintro (h | h)
      · exact .inl h.symm
      · exact .inr h
theorem flat_strs : ∀ l : List Str, (l.map V.str).all flatV = true
  | [] => rfl
  | x :: l => by rw [List.map_cons, List.all_cons, flat_strs l]; rfl
theorem isWord_ne {z : Str} : (z ≠ ("" : Str)) ↔ z.cps.toList.isEmpty = false := by
  obtain ⟨a⟩ := z
  have e : ("" : Str) = ⟨#[]⟩ := by decide +kernel
  rw [e]
  cases h : a.toList with
  | nil =>
    have : a = #[] := by
      apply Array.ext'
      rw [h]
    subst this
    simp
  | cons x r =>
    refine ⟨fun _ => rfl, fun _ q => ?_⟩
    have q' : a = #[] := by injection q
    subst q'
    cases h
def spIsWord : Sp := fun vs H Q _ => ∃ z : Str, vs = [.str z] ∧ Q (.bl (isWord z)) H
def spIsName : Sp := fun vs H Q _ => ∃ z : Str, vs = [.str z] ∧ z.length ≤ sizeLine ∧ Q (.bl (isName z)) H
abbrev s_is_word : Stmt := top 17
theorem sc_is_word : FnScope ["text", "sign"] ["text"] (defScope s_is_word) := ⟨rfl, rfl, rfl, by decide +kernel, rfl, by decide +kernel, by decide +kernel⟩
abbrev s_is_name : Stmt := top 18
theorem sc_is_name : FnScope ["name"] ["name"] (defScope s_is_name) := ⟨rfl, rfl, rfl, by decide +kernel, rfl, by decide +kernel, by decide +kernel⟩
structure TNames (K : PySem.W.Frag) (mg : Str → Option Value) : Prop where
  d_is_word : DefAt K mg "is_word" s_is_word ["text"]
  d_is_name : DefAt K mg "is_name" s_is_name ["name"]
  g_SIGNS : GlobC mg "SIGNS" (.str sSIGNS)
  g_MOST_SIGNS : GlobC mg "MOST_SIGNS" (.int 8)
  g_KEPT : GlobT K mg "KEPT" keptV
  z_len : mg "len" = none
section
variable {P : Program} {w : World} {K : PySem.W.Frag} {mg : Str → Option Value} {base : Heap}
theorem ok_is_word (T : TNames K mg) : FnAt P w K mg base CX0 "is_word" 1 ["text"] spIsWord := by
  refine fnAt_ok T.d_is_word sc_is_word (fun vs H Q E h => ?_) (fun f cdv A outer s H vs Q E hr h => ?_)
  · obtain ⟨z, rfl, _⟩ := h; rfl
  · obtain ⟨z, rfl, k⟩ := h
    refine ⟨_, (pss_cons (ps_for PassesOwn.never rfl (pi_str (pv 0)) (pg_name (i := 1) sc_is_word.nd rfl (by first | exact Or.inl rfl | exact Or.inr rfl)) (pss_one (ps_if (pt_cmpR op_notIn_sign (pv 1) (pe_gc T.g_SIGNS) rfl) (pss_one (ps_ret pe_bl)) pss_nil)))
        (pss_one (ps_ret (pe_cmpR op_ne (pv 0) pe_str (nomark _))))), ?_⟩
    refine ⟨_, rfl, z, rfl, for_str (x := z) (fun i σ H' => ∃ v, σ = [some (.str z), v] ∧ H' = H ∧ (z.cps.toList.take i).all isLow = true) ⟨none, rfl, rfl, rfl⟩ ?_ ?_⟩
    · rintro i c σ H' hi ⟨v, rfl, rfl, hp⟩
      have hi' : z.cps.toList[i]? = some c := by simpa using hi
      walk_at "rd"
      refine ⟨c, rfl, ?_⟩
      rw [dec_signs]
      by_cases hc : isLow c = true
      · rw [hc]
        simp only [Bool.not_true, Bool.false_eq_true, if_false]
        rw [List.take_succ, hi', List.all_append, hp]
        simp [hc]
      · have hc' : isLow c = false := by simpa using hc
        rw [hc']
        refine iteT ?_
        have e : isWord z = false := by
          unfold isWord
          rw [Bool.and_eq_false_iff]
          left
          rw [List.all_eq_false]
          exact ⟨c, List.mem_of_getElem? hi', by simp [hc']⟩
        rw [e] at k
        exact k
    · rintro σ H' ⟨v, rfl, rfl, hp⟩
      walk_at "rd"
      have e : (!decide (z = "")) = isWord z := by
        unfold isWord
        have hp' : z.cps.toList.all isLow = true := by
          have : z.cps.toList.take z.cps.size = z.cps.toList := by
            rw [List.take_of_length_le]
            simp
          rw [this] at hp
          exact hp
        rw [hp', Bool.true_and, Bool.eq_iff_iff]
        simp only [Bool.not_eq_true', decide_eq_false_iff_not]
        exact isWord_ne
      rw [e]
      exact k
theorem ok_is_name (T : TNames K mg) : FnAt P w K mg base CX0 "is_name" 2 ["name"] spIsName := by
  have G_is_word : FnAt P w K mg base CX0 "is_word" 1 _ spIsWord := ok_is_word T
  refine fnAt_ok T.d_is_name sc_is_name (fun vs H Q E h => ?_) (fun f cdv A outer s H vs Q E hr h => ?_)
  · obtain ⟨z, rfl, _⟩ := h; rfl
  · obtain ⟨z, rfl, hz, k⟩ := h
    refine ⟨_, (pss_one (ps_ret (pe_and (pe_callF G_is_word hr pass0 (pa_cons (pv 0) pa_nil)) (pe_and (pe_cmpR op_le (pe_callB call_len_str (by rfl) T.z_len PySem.boot_len (pa_cons (pv 0) pa_nil)) (pe_gc T.g_MOST_SIGNS) (nomark _)) (pe_one (pe_cmp (pc_notInK T.g_KEPT (pv 0)))))))), ?_⟩
    walk_at "rd"
    refine ⟨z, rfl, ?_⟩
    unfold isName at k
    cases hw : isWord z with
    | false =>
      rw [hw] at k
      exact ⟨false, rfl, iteF k⟩
    | true =>
      rw [hw] at k
      refine ⟨true, rfl, iteT ⟨hz, ?_⟩⟩
      by_cases hl : z.length ≤ 8
      · have hl' : ((z.length : Nat) : Int) ≤ 8 := by omega
        rw [decide_eq_true hl']
        refine iteT ⟨flat_strs _, ?_⟩
        unfold keptV
        rw [inV_strs]
        rw [decide_eq_true hl] at k
        exact k
      · have hl' : ¬ ((z.length : Nat) : Int) ≤ 8 := by omega
        rw [decide_eq_false hl']
        rw [decide_eq_false hl] at k
        exact iteF k
end

/-! ## cells, mixed at once -/
def cellAt (ns : List Int) (k : Int) : Int := ns.getD k.toNat 0
def mixed (c k : Int) : Int := (((c + 7919 * k + 11) * 48271 % 2147483647) * ((c + 7919 * k + 11) * 48271 % 2147483647) + 40692 * ((c + 7919 * k + 11) * 48271 % 2147483647)) % 2147483399
theorem mixed_nn (c k : Int) : 0 ≤ mixed c k := Int.emod_nonneg _ (by decide)
theorem mixed_lt (c k : Int) : mixed c k < 2147483399 := Int.emod_lt_of_pos _ (by decide)
theorem letters_at {j : Int} (h0 : 0 ≤ j) (h1 : j < 26) : atI (("abcdefghijklmnopqrstuvwxyz" : Str)).cps.toList j = some (97 + j.toNat) := by
  have e : ("abcdefghijklmnopqrstuvwxyz" : Str).cps.toList = (List.range 26).map (97 + ·) := by decide +kernel
  rw [e]
  refine atI_int h0 ?_
  rw [List.getElem?_map, List.getElem?_range (by omega)]
  rfl
/-- a drawn number: it is not below 0 -/
def spCellAt (K : PySem.W.Frag) : Sp := fun vs H Q _ => ∃ (a : Addr) (ns : List Int) (k : Int), vs = [.ref a, .int k] ∧ SqL K H a (ns.map V.int) ∧ 0 ≤ k ∧ ∀ c : Int, 0 ≤ c → c < 2147483399 → c = mixed (cellAt ns k) (300 + k) → Q (.int c) H
def spMixed : Sp := fun vs H Q _ => ∃ c k : Int, vs = [.int c, .int k] ∧ Q (.int (mixed c k)) H
abbrev s__law_cell_at : Stmt := top 42
theorem sc__law_cell_at : FnScope ["_law_script", "_law_k", "_law_cell"] ["_law_script", "_law_k"] (defScope s__law_cell_at) := ⟨rfl, rfl, rfl, by decide +kernel, rfl, by decide +kernel, by decide +kernel⟩
abbrev s__law_mixed : Stmt := top 44
theorem sc__law_mixed : FnScope ["_law_cell", "_law_k", "_law_mix"] ["_law_cell", "_law_k"] (defScope s__law_mixed) := ⟨rfl, rfl, rfl, by decide +kernel, rfl, by decide +kernel, by decide +kernel⟩
structure TCells (K : PySem.W.Frag) (mg : Str → Option Value) : Prop where
  d_cell_at : DefAt K mg "_law_cell_at" s__law_cell_at ["_law_script", "_law_k"]
  d_mixed : DefAt K mg "_law_mixed" s__law_mixed ["_law_cell", "_law_k"]
  z_len : mg "len" = none
section
variable {P : Program} {w : World} {K : PySem.W.Frag} {mg : Str → Option Value} {base : Heap}
theorem ok_mixed (T : TCells K mg) : FnAt P w K mg base CX0 "_law_mixed" 1 ["_law_cell", "_law_k"] spMixed := by
  refine fnAt_ok T.d_mixed sc__law_mixed (fun vs H Q E h => ?_) (fun f cdv A outer s H vs Q E hr h => ?_)
  · obtain ⟨c, k, rfl, _⟩ := h; rfl
  · obtain ⟨c, n, rfl, k⟩ := h
    refine ⟨_, (pss_cons (ps_set (i := 2) sc__law_mixed.nd rfl (by first | exact Or.inl rfl | exact Or.inr rfl) (pe_op op_mod (pe_op op_mul (pe_op op_add (pe_op op_add (pv 0) (pe_op op_mul pe_int (pv 1))) pe_int) pe_int) pe_int))
        (pss_one (ps_ret (pe_op op_mod (pe_op op_add (pe_op op_mul (pv 2) (pv 2)) (pe_op op_mul pe_int (pv 2))) pe_int)))), ?_⟩
    walk_at "rd"
    have h1 : 0 ≤ (c + 7919 * n + 11) * 48271 % 2147483647 := Int.emod_nonneg _ (by decide)
    have h2 : (c + 7919 * n + 11) * 48271 % 2147483647 < 2147483647 := Int.emod_lt_of_pos _ (by decide)
    exact ⟨.inl ⟨by omega, by omega⟩, k⟩
theorem ok_cell_at (T : TCells K mg) : FnAt P w K mg base CX0 "_law_cell_at" 2 ["_law_script", "_law_k"] (spCellAt K) := by
  have G__law_mixed : FnAt P w K mg base CX0 "_law_mixed" 1 _ spMixed := ok_mixed T
  refine fnAt_ok T.d_cell_at sc__law_cell_at (fun vs H Q E h => ?_) (fun f cdv A outer s H vs Q E hr h => ?_)
  · obtain ⟨a, ns, k, rfl, _⟩ := h; rfl
  · obtain ⟨a, ns, n, rfl, hs, h0, k⟩ := h
    refine ⟨_, (pss_cons (ps_set (i := 2) sc__law_cell_at.nd rfl (by first | exact Or.inl rfl | exact Or.inr rfl) pe_int)
        (C8.pss_cut (ps_if (pt_cmpR op_lt (pv 1) (pe_callB call_len_seq (by rfl) T.z_len PySem.boot_len (pa_cons (pv 0) pa_nil)) (nomark _)) (pss_one (ps_set (i := 2) sc__law_cell_at.nd rfl (by first | exact Or.inl rfl | exact Or.inr rfl) (pe_ix ix_list (pv 0) (pv 1) (fun _ _ => rfl)))) pss_nil)
        (pss_one (ps_ret (pe_callF G__law_mixed hr pass0 (pa_cons (pv 2) (pa_cons (pe_op op_add pe_int (pv 1)) pa_nil))))))), ?_⟩
    walk_at "rd"
    refine ⟨fun σ' H' => σ' = [some (.ref a), some (.int n), some (.int (cellAt ns n))] ∧ H' = H, ?_, ?_⟩
    · walk_at "rd"
      refine ⟨_, .inl hs, ?_⟩
      rw [List.length_map]
      unfold cellAt
      by_cases hl : n < (ns.length : Int)
      · rw [decide_eq_true hl]
        have hn : n.toNat < ns.length := by omega
        refine iteT ⟨a, _, _, .int ns[n.toNat], rfl, rfl, hs, ?_, ?_⟩
        · exact atI_int h0 (by rw [List.getElem?_map, List.getElem?_eq_getElem hn]; rfl)
        · rw [List.getD_eq_getElem?_getD, List.getElem?_eq_getElem hn]
          exact ⟨rfl, rfl⟩
      · rw [decide_eq_false hl]
        have hn : ns.length ≤ n.toNat := by omega
        refine iteF ?_
        rw [List.getD_eq_getElem?_getD, List.getElem?_eq_none hn]
        rfl
    rintro σ' H' ⟨rfl, rfl⟩
    walk_at "rd"
    exact ⟨_, _, rfl, k _ (mixed_nn _ _) (mixed_lt _ _) rfl⟩
end

--%% A1
/-! ## conditions: the plain side -/
inductive Cond where
  | fixed (b : Bool)
  | contact (n : Str)
  | not (c : Cond)
  | grp (s : Bool) (cs : List Cond)
mutual
def Cond.size : Cond → Nat
  | .fixed _ => 1
  | .contact _ => 1
  | .not c => c.size + 1
  | .grp _ cs => Cond.sizes cs + 1
def Cond.sizes : List Cond → Nat
  | [] => 0
  | c :: cs => c.size + Cond.sizes cs
end
mutual
def Cond.depth : Cond → Nat
  | .fixed _ => 1
  | .contact _ => 1
  | .not c => c.depth + 1
  | .grp _ cs => Cond.depths cs + 1
def Cond.depths : List Cond → Nat
  | [] => 0
  | c :: cs => max c.depth (Cond.depths cs)
end
def Cond.kids : Cond → List Cond
  | .fixed _ => []
  | .contact _ => []
  | .not c => [c]
  | .grp _ cs => cs
theorem Cond.depth_kids (c : Cond) : c.depth = Cond.depths c.kids + 1 := by
  cases c <;> simp [Cond.depth, Cond.kids, Cond.depths]
theorem Cond.size_kids (c : Cond) : c.size = Cond.sizes c.kids + 1 := by
  cases c <;> simp [Cond.size, Cond.kids, Cond.sizes]
theorem Cond.depth_pos (c : Cond) : 1 ≤ c.depth := by rw [Cond.depth_kids]; omega
theorem Cond.size_pos (c : Cond) : 1 ≤ c.size := by rw [Cond.size_kids]; omega
theorem Cond.depth_mem : ∀ {cs : List Cond} {c : Cond}, c ∈ cs → c.depth ≤ Cond.depths cs
  | x :: cs, c, h => by
    rw [Cond.depths]
    rcases List.mem_cons.mp h with rfl | h
    · omega
    · have := Cond.depth_mem h
      omega
theorem Cond.size_mem : ∀ {cs : List Cond} {c : Cond}, c ∈ cs → c.size ≤ Cond.sizes cs
  | x :: cs, c, h => by
    rw [Cond.sizes]
    rcases List.mem_cons.mp h with rfl | h
    · omega
    · have := Cond.size_mem h
      omega
theorem Cond.sizes_sum : ∀ cs : List Cond, Cond.sizes cs = (cs.map Cond.size).sum
  | [] => rfl
  | c :: cs => by rw [Cond.sizes, Cond.sizes_sum cs, List.map_cons, List.sum_cons]
theorem Cond.len_sizes : ∀ cs : List Cond, cs.length ≤ Cond.sizes cs
  | [] => Nat.le_refl _
  | c :: cs => by
    have h1 := Cond.len_sizes cs
    have h2 := c.size_pos
    rw [Cond.sizes, List.length_cons]
    omega
theorem Cond.depths_le : ∀ cs : List Cond, Cond.depths cs ≤ Cond.sizes cs
  | [] => Nat.le_refl _
  | c :: cs => by
    have ih := Cond.depths_le cs
    have h2 : c.depth ≤ c.size := by
      rw [Cond.depth_kids, Cond.size_kids]
      have := Cond.depths_le c.kids
      omega
    rw [Cond.depths, Cond.sizes]
    omega
termination_by cs => Cond.sizes cs
decreasing_by
  · have := c.size_pos
    simp [Cond.sizes]
    omega
  · have := Cond.size_kids c
    simp [Cond.sizes]
    omega
/-- a truth of each name -/
abbrev Im := Str → Bool
mutual
def Cond.holds (f : Im) : Cond → Bool
  | .fixed b => b
  | .contact n => f n
  | .not c => !c.holds f
  | .grp true cs => Cond.alls f cs
  | .grp false cs => Cond.anys f cs
def Cond.alls (f : Im) : List Cond → Bool
  | [] => true
  | c :: cs => c.holds f && Cond.alls f cs
def Cond.anys (f : Im) : List Cond → Bool
  | [] => false
  | c :: cs => c.holds f || Cond.anys f cs
end
theorem Cond.alls_map (f : Im) : ∀ cs : List Cond, Cond.alls f cs = (cs.map (Cond.holds f)).all id
  | [] => rfl
  | c :: cs => by rw [Cond.alls, Cond.alls_map f cs]; rfl
theorem Cond.anys_map (f : Im) : ∀ cs : List Cond, Cond.anys f cs = (cs.map (Cond.holds f)).any id
  | [] => rfl
  | c :: cs => by rw [Cond.anys, Cond.anys_map f cs]; rfl
/-- names put behind those that are there, each once -/
def addN (l : List Str) (n : Str) : List Str := if n ∈ l then l else l ++ [n]
mutual
def Cond.gather (l : List Str) : Cond → List Str
  | .fixed _ => l
  | .contact n => addN l n
  | .not c => c.gather l
  | .grp _ cs => Cond.gathers l cs
def Cond.gathers (l : List Str) : List Cond → List Str
  | [] => l
  | c :: cs => Cond.gathers (c.gather l) cs
end
def Cond.contacts (c : Cond) : List Str := c.gather []
theorem Cond.gathers_fold : ∀ (l : List Str) (cs : List Cond), Cond.gathers l cs = cs.foldl Cond.gather l
  | l, [] => rfl
  | l, c :: cs => by rw [Cond.gathers, Cond.gathers_fold (c.gather l) cs]; rfl
def word (s : Bool) : Str := if s then "and" else "or"
mutual
def Cond.told : Cond → PyData
  | .fixed b => .tuple [.str "fixed", .bool b]
  | .contact n => .tuple [.str "contact", .str n]
  | .not c => .tuple [.str "not", c.told]
  | .grp s cs => .tuple (.str (word s) :: Cond.tolds cs)
def Cond.tolds : List Cond → List PyData
  | [] => []
  | c :: cs => c.told :: Cond.tolds cs
end
theorem Cond.tolds_map : ∀ cs : List Cond, Cond.tolds cs = cs.map Cond.told
  | [] => rfl
  | c :: cs => by rw [Cond.tolds, Cond.tolds_map cs]; rfl
theorem sizes_app : ∀ a b : List Cond, Cond.sizes (a ++ b) = Cond.sizes a + Cond.sizes b
  | [], b => by simp [Cond.sizes]
  | x :: a, b => by rw [List.cons_append, Cond.sizes, Cond.sizes, sizes_app a b]; omega

/-- the five classes -/
structure Cl where
  fx : Addr
  ct : Addr
  tn : Addr
  sr : Addr
  br : Addr
def Cl.gr (cl : Cl) (s : Bool) : Addr := if s then cl.sr else cl.br
def Cl.has (cl : Cl) (C : Addr) : Prop := C = cl.fx ∨ C = cl.ct ∨ C = cl.tn ∨ C = cl.sr ∨ C = cl.br
theorem Cl.has_gr (cl : Cl) (s : Bool) : cl.has (cl.gr s) := by
  cases s <;> simp [Cl.gr, Cl.has]
mutual
/-- at v stands the condition c -/
inductive IsP (cl : Cl) (H : Hp) : V → Cond → Prop
  | fixed {a dx : Addr} {b : Bool} (h : H a = some (.ins cl.fx dx [("value", .bl b)])) : IsP cl H (.ref a) (.fixed b)
  | contact {a dx : Addr} {n : Str} (h : H a = some (.ins cl.ct dx [("name", .str n)])) : IsP cl H (.ref a) (.contact n)
  | not {a dx : Addr} {v : V} {c : Cond} (h : H a = some (.ins cl.tn dx [("part", v)])) (p : IsP cl H v c) : IsP cl H (.ref a) (.not c)
  | grp {a dx t : Addr} {vs : List V} {s : Bool} {cs : List Cond} (h : H a = some (.ins (cl.gr s) dx [("parts", .ref t)])) (ht : H t = some (.tup vs)) (p : IsPs cl H vs cs) : IsP cl H (.ref a) (.grp s cs)
inductive IsPs (cl : Cl) (H : Hp) : List V → List Cond → Prop
  | nil : IsPs cl H [] []
  | cons {v : V} {vs : List V} {c : Cond} {cs : List Cond} (h : IsP cl H v c) (t : IsPs cl H vs cs) : IsPs cl H (v :: vs) (c :: cs)
end
section
variable {cl : Cl} {H H' : Hp} {v : V} {vs : List V} {c : Cond} {cs : List Cond}
mutual
theorem IsP.mono (k : Imm cl.has H H') : ∀ {v : V} {c : Cond}, IsP cl H v c → IsP cl H' v c
  | _, _, .fixed h => .fixed (k _ _ h (.inl rfl))
  | _, _, .contact h => .contact (k _ _ h (.inr (.inl rfl)))
  | _, _, .not h p => .not (k _ _ h (.inr (.inr (.inl rfl)))) (p.mono k)
  | _, _, .grp h ht p => .grp (k _ _ h (cl.has_gr _)) (k _ _ ht trivial) (p.mono k)
theorem IsPs.mono (k : Imm cl.has H H') : ∀ {vs : List V} {cs : List Cond}, IsPs cl H vs cs → IsPs cl H' vs cs
  | _, _, .nil => .nil
  | _, _, .cons p t => .cons (p.mono k) (t.mono k)
end
theorem IsPs.length : ∀ {vs : List V} {cs : List Cond}, IsPs cl H vs cs → vs.length = cs.length
  | _, _, .nil => rfl
  | _, _, .cons _ t => by rw [List.length_cons, List.length_cons, IsPs.length t]
theorem IsPs.at : ∀ {vs : List V} {cs : List Cond} {i : Nat} {v : V}, IsPs cl H vs cs → vs[i]? = some v → ∃ c, cs[i]? = some c ∧ IsP cl H v c
  | _, _, i, v, .nil, h => by simp at h
  | _, _, 0, v, .cons p t, h => by
    simp at h
    subst h
    exact ⟨_, rfl, p⟩
  | _, _, i + 1, v, .cons p t, h => by
    obtain ⟨c, h1, h2⟩ := IsPs.at (i := i) (v := v) t (by simpa using h)
    exact ⟨c, by simpa using h1, h2⟩
theorem IsPs.snoc : ∀ {vs : List V} {cs : List Cond} {v : V} {c : Cond}, IsPs cl H vs cs → IsP cl H v c → IsPs cl H (vs ++ [v]) (cs ++ [c])
  | _, _, _, _, .nil, p => .cons p .nil
  | _, _, _, _, .cons q t, p => .cons q (t.snoc p)
/-- the receiver: an instance of one of the five -/
theorem IsP.obj (p : IsP cl H v c) : ∃ a C dx f x, v = .ref a ∧ H a = some (.ins C dx [(f, x)]) ∧ cl.has C ∧ (f = "value" ∨ f = "name" ∨ f = "part" ∨ f = "parts") := by
  cases p with
  | fixed h => exact ⟨_, _, _, _, _, rfl, h, .inl rfl, .inl rfl⟩
  | contact h => exact ⟨_, _, _, _, _, rfl, h, .inr (.inl rfl), .inr (.inl rfl)⟩
  | not h _ => exact ⟨_, _, _, _, _, rfl, h, .inr (.inr (.inl rfl)), .inr (.inr (.inl rfl))⟩
  | grp h _ _ => exact ⟨_, _, _, _, _, rfl, h, cl.has_gr _, .inr (.inr (.inr rfl))⟩
end
/-- no method is called like a field -/
def notField (m : Str) : Bool := !(m == "value") && !(m == "name") && !(m == "part") && !(m == "parts")
theorem lookup_field {m f : Str} {x : V} (hm : notField m = true) (hf : f = "value" ∨ f = "name" ∨ f = "part" ∨ f = "parts") : List.lookup m [(f, x)] = none := by
  unfold notField at hm
  simp only [Bool.and_eq_true, Bool.not_eq_true'] at hm
  obtain ⟨⟨⟨h1, h2⟩, h3⟩, h4⟩ := hm
  rcases hf with rfl | rfl | rfl | rfl <;> exact lk1 (by assumption)
/-- what the call of a method of a part asks -/
theorem meth_of {cl : Cl} {H : Hp} {v : V} {c : Cond} {m : Str} (hm : notField m = true) (p : IsP cl H v c) : ∃ a C dx fs, v = .ref a ∧ H a = some (.ins C dx fs) ∧ cl.has C ∧ fs.lookup m = none := by
  obtain ⟨a, C, dx, f, x, rfl, h, hc, hf⟩ := p.obj
  exact ⟨a, C, dx, _, rfl, h, hc, lookup_field hm hf⟩
theorem look_of {cl : Cl} {H : Hp} {a C dx : Addr} {fs : List (Str × V)} {c : Cond} {m : Str} (hm : notField m = true) (ha : H a = some (.ins C dx fs)) (p : IsP cl H (.ref a) c) : fs.lookup m = none := by
  obtain ⟨a', C', dx', f, x, e, h, hc, hf⟩ := p.obj
  injection e with e
  subst e
  rw [ha] at h
  cases h
  exact lookup_field hm hf

--%% A2
/-! ## the classes of errors -/
structure Xc where
  err : Addr
  name : Addr
  part : Addr
  end_ : Addr
  ladder : Addr
  text : Addr
  row : Addr
  sheet : Addr
  state : Addr
  match_ : Addr
  many : Addr

inductive Xk where
  | name
  | part
  | end_
  | ladder
  | text
  | row
  | sheet
  | state
  | match_
  | many
deriving DecidableEq
def Xc.at (xc : Xc) : Xk → Addr
  | .name => xc.name
  | .part => xc.part
  | .end_ => xc.end_
  | .ladder => xc.ladder
  | .text => xc.text
  | .row => xc.row
  | .sheet => xc.sheet
  | .state => xc.state
  | .match_ => xc.match_
  | .many => xc.many
def Xk.str : Xk → Str
  | .name => "name"
  | .part => "part"
  | .end_ => "end"
  | .ladder => "ladder"
  | .text => "text"
  | .row => "row"
  | .sheet => "sheet"
  | .state => "state"
  | .match_ => "match"
  | .many => "many"
structure TExs (K : PySem.W.Frag) (mg : Str → Option Value) (xc : Xc) : Prop where
  e_err : ErrAt K mg "LadderError" xc.err
  e_name : ExcAt K mg "NoName" xc.name xc.err
  e_part : ExcAt K mg "NoPart" xc.part xc.err
  e_end : ExcAt K mg "NoEnd" xc.end_ xc.err
  e_ladder : ExcAt K mg "NoLadder" xc.ladder xc.err
  e_text : ExcAt K mg "NoText" xc.text xc.err
  e_row : ExcAt K mg "NoRow" xc.row xc.err
  e_sheet : ExcAt K mg "NoSheet" xc.sheet xc.err
  e_state : ExcAt K mg "NoState" xc.state xc.err
  e_match : ExcAt K mg "NoMatch" xc.match_ xc.err
  e_many : ExcAt K mg "TooMany" xc.many xc.err
  ndx : [xc.err, xc.name, xc.part, xc.end_, xc.ladder, xc.text, xc.row, xc.sheet, xc.state, xc.match_, xc.many].Nodup
section
variable {K : PySem.W.Frag} {mg : Str → Option Value} {xc : Xc}
theorem TExs.of (T : TExs K mg xc) (b : Xk) : ∃ x, ExcAt K mg x (xc.at b) xc.err := by
  cases b
  · exact ⟨_, T.e_name⟩
  · exact ⟨_, T.e_part⟩
  · exact ⟨_, T.e_end⟩
  · exact ⟨_, T.e_ladder⟩
  · exact ⟨_, T.e_text⟩
  · exact ⟨_, T.e_row⟩
  · exact ⟨_, T.e_sheet⟩
  · exact ⟨_, T.e_state⟩
  · exact ⟨_, T.e_match⟩
  · exact ⟨_, T.e_many⟩
theorem TExs.err (T : TExs K mg xc) (b : Xk) : xc.at b ≠ xc.err := by
  have nd := T.ndx
  simp only [List.nodup_cons, List.mem_cons, List.not_mem_nil, or_false, not_or] at nd
  intro e
  cases b <;> simp only [Xc.at] at e <;> simp_all
theorem TExs.inj (T : TExs K mg xc) (a b : Xk) (h : xc.at a = xc.at b) : a = b := by
  have nd := T.ndx
  simp only [List.nodup_cons, List.mem_cons, List.not_mem_nil, or_false, not_or] at nd
  cases a <;> cases b <;> first | rfl | (exfalso; simp only [Xc.at] at h; simp_all)
theorem TExs.kit (T : TExs K mg xc) (a b : Xk) : PySem.W.kitOne K (.ref (xc.at a)) (.ref (xc.at b)) = some (decide (a = b)) := by
  obtain ⟨x, h1⟩ := T.of a
  obtain ⟨y, h2⟩ := T.of b
  rw [h1.kit h2 ⟨T.err a, T.err b⟩]
  congr 1
  by_cases h : a = b
  · rw [decide_eq_true h, h, decide_eq_true rfl]
  · rw [decide_eq_false h, decide_eq_false fun e => h (T.inj a b e)]
end

/-! ## how a law tells an error: ten marks -/
abbrev s__law_kind : Stmt := top 46
theorem sc__law_kind : FnScope ["_law_e", "_law_marks"] ["_law_e"] (defScope s__law_kind) := ⟨rfl, rfl, rfl, by decide +kernel, rfl, by decide +kernel, by decide +kernel⟩
structure TKind2 (K : PySem.W.Frag) (mg : Str → Option Value) (xc : Xc) : Prop where
  exs : TExs K mg xc
  d_kind : DefAt K mg "_law_kind" s__law_kind ["_law_e"]
  z_isinstance : mg "isinstance" = none
  z_ValueError : mg "ValueError" = none
def spKind2 (xc : Xc) (a : Addr) (c : Value) (d : Option Addr) : Sp := fun vs H Q _ => ∃ b : Xk, vs = [.ref a] ∧ c = .ref (xc.at b) ∧ d = none ∧ ∀ H', Same H H' → Q (.str b.str) H'
section
variable {P : Program} {w : World} {K : PySem.W.Frag} {mg : Str → Option Value} {base : Heap} {xc : Xc}
def marksL (b : Xk) : List V := ([.bl (decide (b = .name)), .bl (decide (b = .part)), .bl (decide (b = .end_)), .bl (decide (b = .ladder))] ++ [.bl (decide (b = .text)), .bl (decide (b = .row)), .bl (decide (b = .sheet)), .bl (decide (b = .state))]) ++ [.bl (decide (b = .match_)), .bl (decide (b = .many))]
def Xk.ix : Xk → Nat
  | .name => 0
  | .part => 1
  | .end_ => 2
  | .ladder => 3
  | .text => 4
  | .row => 5
  | .sheet => 6
  | .state => 7
  | .match_ => 8
  | .many => 9
theorem marks_cnt (b : Xk) : (marksL b).countP (fun z => eqV z (.bl true)) = 1 := by cases b <;> rfl
theorem marks_flat (b : Xk) : (marksL b).all flatV = true := by cases b <;> rfl
theorem marks_at (b : Xk) : (marksL b)[b.ix]? = some (.bl true) := by cases b <;> rfl
theorem marks_no (b : Xk) : ∀ (m : Nat) (z : V), m < b.ix → (marksL b)[m]? = some z → eqV z (.bl true) = false := by
  have h : ∀ b : Xk, ∀ m < b.ix, (marksL b)[m]? = some (.bl false) := by
    intro b
    cases b <;> decide +kernel
  intro m z hm hz
  rw [h b m hm] at hz
  cases hz
  rfl
def kindL : List Str := ["name", "part", "end", "ladder", "text", "row", "sheet", "state", "match", "many"]
theorem kind_at (b : Xk) : atI (kindL.map V.str) ((b.ix : Nat) : Int) = some (.str b.str) := by cases b <;> rfl
theorem ok_kind2 (T : TKind2 K mg xc) : FnPAt P w K mg base CX0 "_law_kind" 1 ["_law_e"] (spKind2 xc) := by
  have e_NoName := T.exs.e_name
  have e_NoPart := T.exs.e_part
  have e_NoEnd := T.exs.e_end
  have e_NoLadder := T.exs.e_ladder
  have e_NoMatch := T.exs.e_match
  have e_NoRow := T.exs.e_row
  have e_NoSheet := T.exs.e_sheet
  have e_NoState := T.exs.e_state
  have e_NoText := T.exs.e_text
  have e_TooMany := T.exs.e_many
  refine fnPAt_ok T.d_kind sc__law_kind (fun a c d vs H Q E h => ?_) (fun f cdv A outer s H vs Q E p c d hz hf hr h => ?_)
  · obtain ⟨b, rfl, _⟩ := h; rfl
  · obtain ⟨b, rfl, rfl, rfl, k⟩ := h
    obtain ⟨xn, ex⟩ := T.exs.of b
    have hex := ex.is_
    have hp : p ∈ [p] := List.mem_singleton.mpr rfl
    refine ⟨_, (pss_cons (ps_set (i := 1) sc__law_kind.nd rfl (by first | exact Or.inl rfl | exact Or.inr rfl) (pe_lst (pa_cons (pe_callB (call_isP hex hz hf hp) (by rfl) T.z_isinstance (by decide +kernel) (pa_cons (pv 0) (pa_cons (pe_exc e_NoName) pa_nil))) (pa_cons (pe_callB (call_isP hex hz hf hp) (by rfl) T.z_isinstance (by decide +kernel) (pa_cons (pv 0) (pa_cons (pe_exc e_NoPart) pa_nil))) (pa_cons (pe_callB (call_isP hex hz hf hp) (by rfl) T.z_isinstance (by decide +kernel) (pa_cons (pv 0) (pa_cons (pe_exc e_NoEnd) pa_nil))) (pa_cons (pe_callB (call_isP hex hz hf hp) (by rfl) T.z_isinstance (by decide +kernel) (pa_cons (pv 0) (pa_cons (pe_exc e_NoLadder) pa_nil))) pa_nil))))))
        (pss_cons (ps_set (i := 1) sc__law_kind.nd rfl (by first | exact Or.inl rfl | exact Or.inr rfl) (pe_op op_cat (pv 1) (pe_lst (pa_cons (pe_callB (call_isP hex hz hf hp) (by rfl) T.z_isinstance (by decide +kernel) (pa_cons (pv 0) (pa_cons (pe_exc e_NoText) pa_nil))) (pa_cons (pe_callB (call_isP hex hz hf hp) (by rfl) T.z_isinstance (by decide +kernel) (pa_cons (pv 0) (pa_cons (pe_exc e_NoRow) pa_nil))) (pa_cons (pe_callB (call_isP hex hz hf hp) (by rfl) T.z_isinstance (by decide +kernel) (pa_cons (pv 0) (pa_cons (pe_exc e_NoSheet) pa_nil))) (pa_cons (pe_callB (call_isP hex hz hf hp) (by rfl) T.z_isinstance (by decide +kernel) (pa_cons (pv 0) (pa_cons (pe_exc e_NoState) pa_nil))) pa_nil)))))))
        (pss_cons (ps_set (i := 1) sc__law_kind.nd rfl (by first | exact Or.inl rfl | exact Or.inr rfl) (pe_op op_cat (pv 1) (pe_lst (pa_cons (pe_callB (call_isP hex hz hf hp) (by rfl) T.z_isinstance (by decide +kernel) (pa_cons (pv 0) (pa_cons (pe_exc e_NoMatch) pa_nil))) (pa_cons (pe_callB (call_isP hex hz hf hp) (by rfl) T.z_isinstance (by decide +kernel) (pa_cons (pv 0) (pa_cons (pe_exc e_TooMany) pa_nil))) pa_nil)))))
        (pss_cons (ps_if (PW.pt (pw_or (pt_cmpR op_ne (pe_bm PySem.F.plainAttrs_list PySem.F.slot_list_count PySem.F.type_list_count mt_countF (pv 1) (pa_cons pe_bl pa_nil)) pe_int (nomark _)) (pw_or1 (pt_not (pt_val (pe_callB (call_isP hex hz hf hp) (by rfl) T.z_isinstance (by decide +kernel) (pa_cons (pv 0) (pa_cons (pe_bltn (v := .ty "ValueError") (by rfl) T.z_ValueError (by decide +kernel) rfl) pa_nil)))))))) (pss_one (ps_ret pe_str)) pss_nil)
        (pss_one (ps_ret (pe_ix ix_list (pe_lst (pa_cons pe_str (pa_cons pe_str (pa_cons pe_str (pa_cons pe_str (pa_cons pe_str (pa_cons pe_str (pa_cons pe_str (pa_cons pe_str (pa_cons pe_str (pa_cons pe_str pa_nil))))))))))) (pe_bm PySem.F.plainAttrs_list PySem.F.slot_list_index PySem.F.type_list_index mt_index (pv 1) (pa_cons pe_bl pa_nil)) (fun _ _ => rfl)))))))), ?_⟩
    walk_at "rd"
    refine ⟨(.ref xc.name), (.ref xc.name), _, rfl, fun u r => r, T.exs.kit b .name, (.ref xc.part), (.ref xc.part), _, rfl, fun u r => r, T.exs.kit b .part, (.ref xc.end_), (.ref xc.end_), _, rfl, fun u r => r, T.exs.kit b .end_, (.ref xc.ladder), (.ref xc.ladder), _, rfl, fun u r => r, T.exs.kit b .ladder, line_ge (by simp), fun l1 n1 => ⟨(.ref xc.text), (.ref xc.text), _, rfl, fun u r => r, T.exs.kit b .text, (.ref xc.row), (.ref xc.row), _, rfl, fun u r => r, T.exs.kit b .row, (.ref xc.sheet), (.ref xc.sheet), _, rfl, fun u r => r, T.exs.kit b .sheet, (.ref xc.state), (.ref xc.state), _, rfl, fun u r => r, T.exs.kit b .state, line_ge (by simp), fun l2 n2 => ?_⟩⟩
    refine ⟨l1, l2, _, _, rfl, rfl, Same.new n2 _ _ upd_same, upd_same, line_ge (by simp), fun l3 n3 => ⟨(.ref xc.match_), (.ref xc.match_), _, rfl, fun u r => r, T.exs.kit b .match_, (.ref xc.many), (.ref xc.many), _, rfl, fun u r => r, T.exs.kit b .many, line_ge (by simp), fun l4 n4 => ⟨l3, l4, _, _, rfl, rfl, Same.new n4 _ _ upd_same, upd_same, line_ge (by simp), fun l5 n5 => ?_⟩⟩⟩
    refine ⟨_, rfl, .inl ⟨rfl, _, SqL.of upd_same⟩, l5, marksL b, _, rfl, rfl, SqL.of upd_same, rfl, marks_flat b, ?_⟩
    rw [marks_cnt]
    refine ⟨scal_ii, ?_⟩
    rw [decide_eq_true (show V.int ((1 : Nat) : Int) = V.int 1 from rfl)]
    refine iteF ⟨.ty "ValueError", .type "ValueError", true, rfl, fun u r => r, ex.kitV, true, rfl, iteF ⟨line_ge (by simp), fun l6 n6 => ?_⟩⟩
    refine ⟨_, rfl, .inl ⟨rfl, _, SqL.of (Same.new n6 _ _ upd_same)⟩, l5, marksL b, .bl true, b.ix, .bl true, rfl, rfl, SqL.of (Same.new n6 _ _ upd_same), rfl, marks_flat b, marks_at b, rfl, marks_no b, ?_⟩
    exact ⟨l6, kindL.map V.str, _, .str b.str, rfl, rfl, SqL.of upd_same, kind_at b, k _ (((((Same.new n1).trans (Same.new n2)).trans (Same.new n3)).trans ((Same.new n4).trans (Same.new n5))).trans (Same.new n6))⟩
end

/-! ## ends: coils alone -/
abbrev s_End___init__ : Stmt := inClass (top 21) 0
theorem sc_End___init__ : FnScope ["self", "name"] ["self", "name"] (defScope s_End___init__) := ⟨rfl, rfl, rfl, by decide +kernel, rfl, by decide +kernel, by decide +kernel⟩
inductive Ek where
  | coil | unlatch
deriving DecidableEq
/-- the classes of ends -/
structure Ce where
  coil : Addr
  unlatch : Addr
  en : Addr
def Ce.at (ce : Ce) : Ek → Addr
  | .coil => ce.coil
  | .unlatch => ce.unlatch
def Ce.has (ce : Ce) (C : Addr) : Prop := ∃ k, C = ce.at k
def Ek.counts : Ek → Bool
  | _ => false
/-- an end: its kind, its name, its greatest count -/
structure EndC where
  k : Ek
  n : Str
  m : Int
def EndC.fs (e : EndC) : List (Str × V) := if e.k.counts then [("name", .str e.n), ("most", .int e.m)] else [("name", .str e.n)]
def IsE (ce : Ce) (H : Hp) (v : V) (e : EndC) : Prop := ∃ a dx, v = .ref a ∧ H a = some (.ins (ce.at e.k) dx e.fs)
theorem IsE.mono {ce : Ce} {H H' : Hp} {v : V} {e : EndC} (k : Imm ce.has H H') (p : IsE ce H v e) : IsE ce H' v e := by
  obtain ⟨a, dx, e1, h⟩ := p
  exact ⟨a, dx, e1, k _ _ h ⟨_, rfl⟩⟩
structure TEnds (K : PySem.W.Frag) (mg : Str → Option Value) (ce : Ce) : Prop where
  names : TNames K mg
  c_Coil : ClsAt K mg "Coil" ce.coil
  c_Unlatch : ClsAt K mg "Unlatch" ce.unlatch
  nn_coil : NoAttr K ce.coil "name"
  nn_unlatch : NoAttr K ce.unlatch "name"
  m_init_coil : MethAt K ce.coil "__init__" "End.__init__" s_End___init__ ["self", "name"]
  z_isinstance : mg "isinstance" = none
section
variable {P : Program} {w : World} {K : PySem.W.Frag} {mg : Str → Option Value} {base : Heap} {ce : Ce} {xc : Xc}
theorem TEnds.cls (T : TEnds K mg ce) : ∀ k : Ek, Cls K (ce.at k)
  | .coil => T.c_Coil.cl
  | .unlatch => T.c_Unlatch.cl
theorem TEnds.nn (T : TEnds K mg ce) : ∀ k : Ek, NoAttr K (ce.at k) "name"
  | .coil => T.nn_coil
  | .unlatch => T.nn_unlatch
theorem E_name (e : EndC) : List.lookup ("name" : Str) e.fs = some (.str e.n) := by
  unfold EndC.fs
  split <;> simp [List.lookup]
theorem E_no {m : Str} (e : EndC) (h1 : (m == ("name" : Str)) = false) (h2 : (m == ("most" : Str)) = false) : List.lookup m e.fs = none := by
  unfold EndC.fs
  split <;> simp [List.lookup, h1, h2]
def spInitEn (ce : Ce) (xc : Xc) : Sp := fun vs H Q E => ∃ (x dx : Addr) (k : Ek) (n : Str), vs = [.ref x, .str n] ∧ H x = some (.ins (ce.at k) dx []) ∧ n.length ≤ sizeLine ∧
  (isName n = true → ∀ H' : Hp, H' x = some (.ins (ce.at k) dx [("name", .str n)]) → But x H H' → Q .non H') ∧ (isName n = false → E (.ref xc.name) none H)
theorem init_en (T : TEnds K mg ce) (X : TExs K mg xc) {nm : Str} (k0 : Ek) (c : ClsAt K mg nm (ce.at k0)) (D : MethAt K (ce.at k0) "__init__" "End.__init__" s_End___init__ ["self", "name"]) : MakAt P w K mg base (L2.CX P w) nm (ce.at k0) 3 ["self", "name"] (spInitEn ce xc) := by
  have G_is_name : FnAt P w K mg base CX0 "is_name" 2 _ spIsName := ok_is_name T.names
  have e_NoName := X.e_name
  refine makAt_of c (methAt_okX c.cl D sc_End___init__ (fun vs H Q E h => ?_) (fun f cdv A outer s H vs Q E hr h => ?_))
  · obtain ⟨x, dx, k, n, rfl, _⟩ := h; rfl
  · obtain ⟨x, dx, k, n, rfl, hx, hl, q, qx⟩ := h
    refine ⟨_, (pss_cons (ps_if (pt_not (pt_val (pe_callF G_is_name hr pass0 (pa_cons (pv 1) pa_nil)))) (pss_one (ps_raiseO rfl e_NoName (L2.takes_of rfl rfl rfl rfl))) pss_nil)
        (pss_one (ps_fld (pv 0) (pv 1) rfl))), ?_⟩
    refine ⟨_, rfl, n, rfl, hl, ?_⟩
    cases hn : isName n with
    | false => exact ⟨false, rfl, iteT (qx hn)⟩
    | true =>
      refine ⟨true, rfl, iteF ?_⟩
      refine ⟨_, rfl, _, rfl, x, _, dx, [], rfl, hx, T.cls k, T.nn k, (by show 0 < 1000; decide), ?_⟩
      exact q hn _ upd_same But.upd
/-! ### what making asks -/
theorem same_mkE {H : Hp} {x dx C : Addr} {fs : List (Str × V)} (nx : H x = none) (nd : H dx = none) : Same H (upd (upd H dx (.own x)) x (.ins C dx fs)) := fun b o e => by
  rw [upd_ne (ne_of_none e nx), upd_ne (ne_of_none e nd)]
  exact e
theorem mk_en {H : Hp} {k : Ek} {n : Str} {m : Int} {Q : VK} {E : XK} (hk : k.counts = false) (hl : n.length ≤ sizeLine) (q : isName n = true → ∀ (H' : Hp) (x : Addr), Same H H' → H x = none → IsE ce H' (.ref x) ⟨k, n, m⟩ → Q (.ref x) H') (qn : isName n = false → ∀ H', Same H H' → E (.ref xc.name) none H') :
    ∀ x dx, H x = none → H dx = none → dx ≠ x → spInitEn ce xc (.ref x :: ([.str n] ++ [])) (upd (upd H dx (.own x)) x (.ins (ce.at k) dx [])) (fun v H' => v = .non ∧ Q (.ref x) H') E :=
  fun x dx nx nd _ => ⟨x, dx, k, n, rfl, upd_same, hl, fun hn H' h1 h2 => ⟨rfl, q hn H' x (fun c o e => h2 c o (same_mkE nx nd c o e) (ne_of_none e nx)) nx ⟨x, dx, rfl, by unfold EndC.fs; rw [hk]; exact h1⟩⟩, fun hn => qn hn _ (same_mkE nx nd)⟩
end
structure TEnK (K : PySem.W.Frag) (mg : Str → Option Value) (ce : Ce) : Prop where
  ends : TEnds K mg ce
  o_coil_unlatch : PySem.W.kitOne K (.ref ce.coil) (.ref ce.unlatch) = some false
  o_unlatch_unlatch : PySem.W.kitOne K (.ref ce.unlatch) (.ref ce.unlatch) = some true
section
variable {K : PySem.W.Frag} {mg : Str → Option Value} {ce : Ce}
theorem TEnK.is_Unlatch (T : TEnK K mg ce) : Ru.IsT K ce.unlatch (fun C b => ∃ k : Ek, C = ce.at k ∧ b = decide (k = .unlatch)) := by
  rintro C b ⟨k, rfl, rfl⟩
  cases k
  · exact ⟨⟨_, _, T.ends.c_Coil⟩, T.o_coil_unlatch⟩
  · exact ⟨⟨_, _, T.ends.c_Unlatch⟩, T.o_unlatch_unlatch⟩
theorem TEnK.c_Unlatch (T : TEnK K mg ce) : ClsAt K mg "Unlatch" ce.unlatch := T.ends.c_Unlatch
theorem TEnK.z_isinstance (T : TEnK K mg ce) : mg "isinstance" = none := T.ends.z_isinstance
end

/-! ## ladders: the plain side -/
structure Rg where
  c : Cond
  e : EndC
structure Lad where
  ins : List Str
  outs : List Str
  rs : List Rg
/-- a name more, where it is not yet there -/
def addW (l : List Str) (n : Str) : List Str := if n ∈ l then l else l ++ [n]
/-- the names that rungs write, each once -/
def writ (rs : List Rg) : List Str := rs.foldl (fun l r => addW l r.e.n) []
/-- what stands at a name in need_own -/
def bears (n : Str) (rs : List Rg) : List Bool := (rs.filter fun r => decide (r.e.n = n) && !decide (r.e.k = .unlatch)).map fun r => r.e.k.counts
def crowd (rs : List Rg) : Bool := rs.any fun r => decide (1 < (bears r.e.n rs).length) && (bears r.e.n rs).any id
def Lad.named (l : Lad) : Bool := (l.ins ++ l.outs).all isName
def Lad.fair (l : Lad) : Bool := decide (l.ins.length ≤ 6) && decide l.ins.Nodup && decide (1 ≤ l.outs.length ∧ l.outs.length ≤ 6) && decide l.outs.Nodup && decide (1 ≤ l.rs.length ∧ l.rs.length ≤ 30) &&
  l.ins.all (fun n => !decide (n ∈ writ l.rs)) && l.outs.all (fun n => decide (n ∈ writ l.rs)) && !crowd l.rs && decide ((writ l.rs).length ≤ 20)
theorem addW_mem {l : List Str} {n x : Str} : x ∈ addW l n ↔ x ∈ l ∨ x = n := by
  unfold addW
  split
  · constructor
    · exact .inl
    · rintro (h | rfl)
      · exact h
      · assumption
  · simp
theorem addW_nodup {l : List Str} {n : Str} (h : l.Nodup) : (addW l n).Nodup := by
  unfold addW
  split
  · exact h
  · rw [List.nodup_append]
    refine ⟨h, by simp, fun a ha b hb e => ?_⟩
    rw [List.mem_singleton.mp hb] at e
    subst e
    contradiction
theorem addW_len (l : List Str) (n : Str) : (addW l n).length ≤ l.length + 1 := by
  unfold addW
  split <;> simp
theorem writ_snoc (rs : List Rg) (r : Rg) : writ (rs ++ [r]) = addW (writ rs) r.e.n := by
  unfold writ
  rw [List.foldl_append]
  rfl
theorem writ_ind {p : List Rg → Prop} (h0 : p []) (hs : ∀ rs r, p rs → p (rs ++ [r])) : ∀ rs, p rs := by
  have h : ∀ n (rs : List Rg), rs.length = n → p rs := by
    intro n
    induction n with
    | zero =>
      intro rs h
      rw [List.length_eq_zero_iff.mp h]
      exact h0
    | succ n ih =>
      intro rs h
      have hne : rs ≠ [] := by intro e; rw [e] at h; simp at h
      rw [← List.dropLast_concat_getLast hne]
      exact hs _ _ (ih _ (by rw [List.length_dropLast, h]; rfl))
  exact fun rs => h _ rs rfl
theorem writ_mem {x : Str} (rs : List Rg) : x ∈ writ rs ↔ ∃ r ∈ rs, r.e.n = x := by
  refine writ_ind (p := fun rs => x ∈ writ rs ↔ ∃ r ∈ rs, r.e.n = x) (by simp [writ]) (fun rs r ih => ?_) rs
  rw [writ_snoc, addW_mem, ih]
  constructor
  · rintro (⟨q, hq, e⟩ | rfl)
    · exact ⟨q, List.mem_append_left _ hq, e⟩
    · exact ⟨r, by simp, rfl⟩
  · rintro ⟨q, hq, e⟩
    rcases List.mem_append.mp hq with hq | hq
    · exact .inl ⟨q, hq, e⟩
    · rw [List.mem_singleton.mp hq] at e
      exact .inr e.symm
theorem writ_nodup (rs : List Rg) : (writ rs).Nodup := writ_ind (p := fun rs => (writ rs).Nodup) (by simp [writ]) (fun rs r ih => by rw [writ_snoc]; exact addW_nodup ih) rs
theorem writ_len (rs : List Rg) : (writ rs).length ≤ rs.length := writ_ind (p := fun rs => (writ rs).length ≤ rs.length) (by simp [writ]) (fun rs r ih => by
  rw [writ_snoc, List.length_append]
  have := addW_len (writ rs) r.e.n
  simp
  omega) rs
theorem writ_pos {rs : List Rg} (h : rs ≠ []) : 1 ≤ (writ rs).length := by
  obtain ⟨r, l, rfl⟩ := List.exists_cons_of_ne_nil h
  have : r.e.n ∈ writ (r :: l) := (writ_mem _).mpr ⟨r, by simp, rfl⟩
  exact List.length_pos_of_mem this
def nmW (l : List Str) : List (Key × V) := l.map fun n => (.inr n, .bl true)
theorem nmW_any (n : Str) : ∀ l : List Str, ((nmW l).any fun kv => decide (kv.1 = (Sum.inr n : Key))) = decide (n ∈ l)
  | [] => by simp [nmW]
  | x :: l => by
    have ih := nmW_any n l
    unfold nmW at ih ⊢
    rw [List.map_cons, List.any_cons, ih, Bool.eq_iff_iff]
    simp only [Bool.or_eq_true, decide_eq_true_eq, List.mem_cons]
    constructor
    · rintro (h | h)
      · injection h with h
        exact .inl h.symm
      · exact .inr h
    · rintro (rfl | h)
      · exact .inl rfl
      · exact .inr h
theorem nmW_put (l : List Str) (n : Str) : putK (nmW l) (Sum.inr n : Key) (.bl true) = nmW (addW l n) := by
  unfold putK addW
  rw [nmW_any]
  by_cases h : n ∈ l
  · rw [decide_eq_true h, if_pos rfl, if_pos h]
    unfold nmW
    rw [List.map_map]
    apply List.map_congr_left
    intro x _
    simp only [Function.comp]
    split <;> rfl
  · rw [decide_eq_false h, if_neg (by decide), if_neg h]
    simp [nmW]
theorem bears_snoc (n : Str) (rs : List Rg) (r : Rg) : bears n (rs ++ [r]) = if (decide (r.e.n = n) && !decide (r.e.k = .unlatch)) = true then bears n rs ++ [r.e.k.counts] else bears n rs := by
  unfold bears
  rw [List.filter_append, List.map_append]
  simp only [List.filter_cons, List.filter_nil]
  split <;> simp
/-! ## ladders: the objects -/
structure Cs where
  cl : Cl
  ce : Ce
  rg : Addr
  ld : Addr
def Cs.has (cs : Cs) (C : Addr) : Prop := cs.cl.has C ∨ cs.ce.has C ∨ C = cs.rg ∨ C = cs.ld
def IsR (cs : Cs) (H : Hp) (v : V) (r : Rg) : Prop := ∃ a dx p q, v = .ref a ∧ H a = some (.ins cs.rg dx [("part", p), ("end", q)]) ∧ IsP cs.cl H p r.c ∧ IsE cs.ce H q r.e
def IsL (K : PySem.W.Frag) (cs : Cs) (H : Hp) (v : V) (l : Lad) : Prop := ∃ a dx ti tt tr ws, v = .ref a ∧ H a = some (.ins cs.ld dx [("inputs", .ref ti), ("outputs", .ref tt), ("rungs", .ref tr)]) ∧ Tp K H ti (l.ins.map V.str) ∧ Tp K H tt (l.outs.map V.str) ∧ Tp K H tr ws ∧ Two (IsR cs H) ws l.rs
theorem IsR.mono {cs : Cs} {H H' : Hp} (k : Imm cs.has H H') {v : V} {r : Rg} (p : IsR cs H v r) : IsR cs H' v r := by
  obtain ⟨a, dx, x, y, e, h, px, py⟩ := p
  exact ⟨a, dx, x, y, e, k _ _ h (.inr (.inr (.inl rfl))), px.mono (k.less fun _ q => .inl q), py.mono (k.less fun _ q => .inr (.inl q))⟩
theorem IsL.mono {K : PySem.W.Frag} {cs : Cs} {H H' : Hp} (k : Imm cs.has H H') {v : V} {l : Lad} (p : IsL K cs H v l) : IsL K cs H' v l := by
  obtain ⟨a, dx, ti, tt, tr, ws, e, h, h1, h2, h3, h4⟩ := p
  exact ⟨a, dx, ti, tt, tr, ws, e, k _ _ h (.inr (.inr (.inr rfl))), h1.mono k, h2.mono k, h3.mono k, h4.mono fun _ _ q => q.mono k⟩

--%% A3
/-! ## ladders: made -/
abbrev s_Rung___init__ : Stmt := inClass (top 33) 0
theorem sc_Rung___init__ : FnScope ["self", "part", "end"] ["self", "part", "end"] (defScope s_Rung___init__) := ⟨rfl, rfl, rfl, by decide +kernel, rfl, by decide +kernel, by decide +kernel⟩
abbrev s_need_between : Stmt := top 34
theorem sc_need_between : FnScope ["things", "least", "most"] ["things", "least", "most"] (defScope s_need_between) := ⟨rfl, rfl, rfl, by decide +kernel, rfl, by decide +kernel, by decide +kernel⟩
abbrev s_need_single : Stmt := top 35
theorem sc_need_single : FnScope ["names"] ["names"] (defScope s_need_single) := ⟨rfl, rfl, rfl, by decide +kernel, rfl, by decide +kernel, by decide +kernel⟩
abbrev s_need_own : Stmt := top 36
theorem sc_need_own : FnScope ["rungs", "bearers", "rung", "name", "counts"] ["rungs"] (defScope s_need_own) := ⟨rfl, rfl, rfl, by decide +kernel, rfl, by decide +kernel, by decide +kernel⟩
abbrev s_Ladder___init__ : Stmt := inClass (top 37) 0
theorem sc_Ladder___init__ : FnScope ["self", "inputs", "outputs", "rungs", "name", "names"] ["self", "inputs", "outputs", "rungs"] (defScope s_Ladder___init__) := ⟨rfl, rfl, rfl, by decide +kernel, rfl, by decide +kernel, by decide +kernel⟩
abbrev s_Ladder_written_names : Stmt := inClass (top 37) 1
theorem sc_Ladder_written_names : FnScope ["self", "found", "rung"] ["self"] (defScope s_Ladder_written_names) := ⟨rfl, rfl, rfl, by decide +kernel, rfl, by decide +kernel, by decide +kernel⟩
structure TLad (K : PySem.W.Frag) (mg : Str → Option Value) (cs : Cs) (cc : Addr) (xc : Xc) : Prop where
  enk : TEnK K mg cs.ce
  exs : TExs K mg xc
  c_Rung : ClsAt K mg "Rung" cs.rg
  c_Ladder : ClsAt K mg "Ladder" cs.ld
  c_Counting : ClsAt K mg "Counting" cc
  q_coil : PySem.W.kitOne K (.ref cs.ce.coil) (.ref cc) = some false
  q_unlatch : PySem.W.kitOne K (.ref cs.ce.unlatch) (.ref cc) = some false
  np_rg : NoAttr K cs.rg "part"
  ne_rg : NoAttr K cs.rg "end"
  ni_ld : NoAttr K cs.ld "inputs"
  no_ld : NoAttr K cs.ld "outputs"
  nr_ld : NoAttr K cs.ld "rungs"
  d_between : DefAt K mg "need_between" s_need_between ["things", "least", "most"]
  d_single : DefAt K mg "need_single" s_need_single ["names"]
  d_own : DefAt K mg "need_own" s_need_own ["rungs"]
  i_rg : MethAt K cs.rg "__init__" "Rung.__init__" s_Rung___init__ ["self", "part", "end"]
  i_ld : MethAt K cs.ld "__init__" "Ladder.__init__" s_Ladder___init__ ["self", "inputs", "outputs", "rungs"]
  m_written : MethAt K cs.ld "written_names" "Ladder.written_names" s_Ladder_written_names ["self"]
  z_len : mg "len" = none
  z_set : mg "set" = none
  z_tuple : mg "tuple" = none
  z_any : mg "any" = none
  z_isinstance : mg "isinstance" = none
  g_MOST_NAMES : GlobC mg "MOST_NAMES" (.int 6)
  g_MOST_RUNGS : GlobC mg "MOST_RUNGS" (.int 30)
  g_MOST_WRITTEN : GlobC mg "MOST_WRITTEN" (.int 20)
section
variable {P : Program} {w : World} {K : PySem.W.Frag} {mg : Str → Option Value} {base : Heap} {cs : Cs} {cc : Addr} {xc : Xc}
theorem TLad.is_Counting (T : TLad K mg cs cc xc) : Ru.IsT K cc (fun C b => ∃ k : Ek, C = cs.ce.at k ∧ b = k.counts) := by
  rintro C b ⟨k, rfl, rfl⟩
  cases k
  · exact ⟨⟨_, _, T.enk.ends.c_Coil⟩, T.q_coil⟩
  · exact ⟨⟨_, _, T.enk.ends.c_Unlatch⟩, T.q_unlatch⟩
theorem TLad.is_Unlatch (T : TLad K mg cs cc xc) : Ru.IsT K cs.ce.unlatch (fun C b => ∃ k : Ek, C = cs.ce.at k ∧ b = decide (k = .unlatch)) := T.enk.is_Unlatch
theorem TLad.c_Unlatch (T : TLad K mg cs cc xc) : ClsAt K mg "Unlatch" cs.ce.unlatch := T.enk.c_Unlatch
theorem lkR1 {x y : V} : List.lookup ("part" : Str) [(("part" : Str), x), (("end" : Str), y)] = some x := by simp [List.lookup]
theorem lkR2 {x y : V} : List.lookup ("end" : Str) [(("part" : Str), x), (("end" : Str), y)] = some y := by
  have e : (("end" : Str) == ("part" : Str)) = false := by decide +kernel
  simp [List.lookup, e]
theorem lkL1 {x y z : V} : List.lookup ("inputs" : Str) [(("inputs" : Str), x), (("outputs" : Str), y), (("rungs" : Str), z)] = some x := by simp [List.lookup]
theorem lkL2 {x y z : V} : List.lookup ("outputs" : Str) [(("inputs" : Str), x), (("outputs" : Str), y), (("rungs" : Str), z)] = some y := by
  have e : (("outputs" : Str) == ("inputs" : Str)) = false := by decide +kernel
  simp [List.lookup, e]
theorem lkL3 {x y z : V} : List.lookup ("rungs" : Str) [(("inputs" : Str), x), (("outputs" : Str), y), (("rungs" : Str), z)] = some z := by
  have e : (("rungs" : Str) == ("inputs" : Str)) = false := by decide +kernel
  have e2 : (("rungs" : Str) == ("outputs" : Str)) = false := by decide +kernel
  simp [List.lookup, e, e2]
theorem lkLw {x y z : V} : List.lookup ("written_names" : Str) [(("inputs" : Str), x), (("outputs" : Str), y), (("rungs" : Str), z)] = none := by
  have e : (("written_names" : Str) == ("inputs" : Str)) = false := by decide +kernel
  have e2 : (("written_names" : Str) == ("outputs" : Str)) = false := by decide +kernel
  have e3 : (("written_names" : Str) == ("rungs" : Str)) = false := by decide +kernel
  simp [List.lookup, e, e2, e3]
theorem all_flatS : ∀ l : List Str, (l.map V.str).all flatV = true
  | [] => rfl
  | _ :: l => all_flatS l
theorem Same.imm0 {H H' : Hp} (s : Same H H') : Imm (fun _ => False) H H' := Same.imm s
def spInitRg (cs : Cs) : Sp := fun vs H Q _ => ∃ (x dx : Addr) (p q : V), vs = [.ref x, p, q] ∧ H x = some (.ins cs.rg dx []) ∧ ∀ H' : Hp, H' x = some (.ins cs.rg dx [("part", p), ("end", q)]) → But x H H' → Q .non H'
theorem ok_init_rg (T : TLad K mg cs cc xc) : MakAt P w K mg base CX0 "Rung" cs.rg 1 ["self", "part", "end"] (spInitRg cs) := by
  refine makAt_of T.c_Rung (methAt_ok T.c_Rung.cl T.i_rg sc_Rung___init__ (fun vs H Q E h => ?_) (fun f cdv A outer s H vs Q E hr h => ?_))
  · obtain ⟨x, dx, p, q, rfl, _⟩ := h; rfl
  · obtain ⟨x, dx, p, q, rfl, hx, k⟩ := h
    refine ⟨_, (pss_cons (ps_fld (pv 0) (pv 1) rfl)
        (pss_one (ps_fld (pv 0) (pv 2) rfl))), ?_⟩
    refine ⟨_, rfl, _, rfl, x, _, dx, [], rfl, hx, T.c_Rung.cl, T.np_rg, (by show 0 < 1000; decide), ?_⟩
    refine ⟨_, rfl, _, rfl, x, _, dx, _, rfl, upd_same, T.c_Rung.cl, T.ne_rg, (by show 1 < 1000; decide), ?_⟩
    exact k _ upd_same (But.upd.trans But.upd)
def spBetween (K : PySem.W.Frag) (xc : Xc) : Sp := fun vs H Q E => ∃ (t : Addr) (ws : List V) (a b : Int), vs = [.ref t, .int a, .int b] ∧ SqT K H t ws ∧ (a ≤ ws.length ∧ (ws.length : Int) ≤ b → Q .non H) ∧ (¬ (a ≤ ws.length ∧ (ws.length : Int) ≤ b) → E (.ref xc.ladder) none H)
theorem ok_between (T : TLad K mg cs cc xc) : FnAt P w K mg base (L2.CX P w) "need_between" 1 ["things", "least", "most"] (spBetween K xc) := by
  have e_NoLadder := T.exs.e_ladder
  refine fnAt_okX T.d_between sc_need_between (fun vs H Q E h => ?_) (fun f cdv A outer s H vs Q E hr h => ?_)
  · obtain ⟨t, ws, a, b, rfl, _⟩ := h; rfl
  · obtain ⟨t, ws, a, b, rfl, ht, q, qx⟩ := h
    refine ⟨_, (pss_one (ps_if (pt_not (pt_chain op_le op_le (pv 1) (pe_callB call_len_seq (by rfl) T.z_len PySem.boot_len (pa_cons (pv 0) pa_nil)) (pv 2))) (pss_one (ps_raiseO rfl e_NoLadder (L2.takes_of rfl rfl rfl rfl))) pss_nil)), ?_⟩
    unfold tChain
    walk_at "rd"
    refine ⟨ws, .inr ht, ?_⟩
    by_cases h1 : a ≤ ws.length
    · rw [decide_eq_true h1]
      by_cases h2 : (ws.length : Int) ≤ b
      · rw [decide_eq_true h2]
        exact iteT (iteF (q ⟨h1, h2⟩))
      · rw [decide_eq_false h2]
        exact iteT (iteT (qx fun z => h2 z.2))
    · rw [decide_eq_false h1]
      exact iteF (qx fun z => h1 z.1)
def spSingleN (K : PySem.W.Frag) (xc : Xc) : Sp := fun vs H Q E => ∃ (t : Addr) (xs : List Str), vs = [.ref t] ∧ SqT K H t (xs.map V.str) ∧ xs.length ≤ 1000 ∧ (xs.Nodup → Q .non H) ∧ (¬ xs.Nodup → E (.ref xc.ladder) none H)
theorem ok_single1 (T : TLad K mg cs cc xc) : FnAt P w K mg base (L2.CX P w) "need_single" 1 ["names"] (spSingleN K xc) := by
  have e_NoLadder := T.exs.e_ladder
  refine fnAt_okX T.d_single sc_need_single (fun vs H Q E h => ?_) (fun f cdv A outer s H vs Q E hr h => ?_)
  · obtain ⟨t, xs, rfl, _⟩ := h; rfl
  · obtain ⟨t, xs, rfl, ht, hl, q, qx⟩ := h
    refine ⟨_, (pss_one (ps_if (pt_cmpR op_ne (pe_lenSetS rfl (by rfl) T.z_len (by rfl) T.z_set (pv 0)) (pe_callB call_len_seq (by rfl) T.z_len PySem.boot_len (pa_cons (pv 0) pa_nil)) (nomark _)) (pss_one (ps_raiseO rfl e_NoLadder (L2.takes_of rfl rfl rfl rfl))) pss_nil)), ?_⟩
    walk_at "rd"
    refine ⟨_, rfl, t, xs, rfl, .inr ht, hl, fun n hn hx => ⟨_, .inr ht, scal_ii, ?_⟩⟩
    rw [List.length_map]
    by_cases hd : xs.Nodup
    · rw [decide_eq_true (by rw [hx.mpr hd])]
      exact iteF (q hd)
    · rw [decide_eq_false (fun e => hd (hx.mp (by injection e with e; omega)))]
      exact iteT (qx hd)
def spWrit (K : PySem.W.Frag) (cs : Cs) : Sp := fun vs H Q _ => ∃ (v : V) (l : Lad), vs = [v] ∧ IsL K cs H v l ∧ l.rs.length ≤ 1000 ∧ ∀ (H' : Hp) (p : Addr), Same H H' → H' p = some (.tup ((writ l.rs).map V.str)) → Q (.ref p) H'
theorem disp_written (T : TLad K mg cs cc xc) : DispAt P w K mg base CX0 (fun C => C = cs.ld) "written_names" 1 ["self"] (fun _ => spWrit K cs) := by
  refine ⟨fun C hC => ?_⟩
  subst hC
  refine methAt_ok T.c_Ladder.cl T.m_written sc_Ladder_written_names (fun vs H Q E h => ?_) (fun f cdv A outer s H vs Q E hr h => ?_)
  · obtain ⟨v, l, rfl, _⟩ := h; rfl
  · obtain ⟨v, l, rfl, p, hl, k⟩ := h
    have hu := hu_of hr
    obtain ⟨a, dx, ti, tt, tr, ws, rfl, ha, h1, h2, h3, h4⟩ := p
    have hlen := h4.length
    refine ⟨_, (pss_cons (ps_set (i := 1) sc_Ladder_written_names.nd rfl (by first | exact Or.inl rfl | exact Or.inr rfl) pe_dnewK)
        (pss_cons (ps_for PassesOwn.never rfl (pi_tup (pe_fld (pv 0) rfl)) (pg_name (i := 2) sc_Ladder_written_names.nd rfl (by first | exact Or.inl rfl | exact Or.inr rfl)) (pss_one (ps_dput hu (pv 1) (pe_fld (pe_fld (pv 2) rfl) rfl) pe_bl rfl)))
        (pss_one (ps_ret (pe_tupKeys T.z_tuple (pv 1)))))), ?_⟩
    walk_at "rd"
    refine fun d nd => ⟨_, rfl, a, _, dx, _, _, rfl, Same.new nd _ _ ha, T.c_Ladder.cl, T.nr_ld, lkL3, tr, rfl, ⟨_, (h3.mono (Same.imm0 (Same.new nd))).seq⟩,
      for_tup (K := K) (a := tr) (xs := ws) (fun i σ H' => ∃ v2 : Option V, σ = [some (.ref a), some (.ref d), v2] ∧ Same H H' ∧ H' d = some (.dK (nmW (writ (l.rs.take i))))) ⟨none, rfl, Same.new nd, upd_same⟩ (fun i σ H' _ ⟨_, _, s, _⟩ => (h3.mono (Same.imm0 s)).seq) ?_ ?_⟩
    · rintro i x σ H' hx ⟨v2, rfl, s1, hd⟩
      obtain ⟨r, hr', x', dx', p', q', rfl, hx', _, hq'⟩ := h4.at hx
      obtain ⟨e, dx2, rfl, he⟩ := hq'
      have hi := List.getElem?_eq_some_iff.mp hr'
      have hw := writ_len (l.rs.take i)
      rw [List.length_take] at hw
      refine ⟨_, rfl, _, rfl, x', _, dx', _, _, rfl, s1 _ _ hx', T.c_Rung.cl, T.ne_rg, lkR2, e, _, dx2, _, _, rfl, s1 _ _ he, T.enk.ends.cls _, T.enk.ends.nn _, E_name _, d, _, rfl, DPut.k (k := .inr r.e.n) hd ?_, _, rfl, Same.mut s1 nd, ?_⟩
      · rw [nmW, List.length_map, sizeLine_eq]
        omega
      · rw [upd_same, nmW_put, List.take_succ, hr']
        show _ = some (HO.dK (nmW (writ (_ ++ [r]))))
        rw [writ_snoc]
    · rintro σ H' ⟨v2, rfl, s1, hd⟩
      rw [hlen, List.take_length] at hd
      refine ⟨_, rfl, d, _, rfl, hd, fun q nq => k _ q (s1.trans (Same.new nq)) ?_⟩
      rw [upd_same, nmW, List.map_map]
      rfl
/-! ### need_own: what ends bear a name -/
def bk (ls : List (Str × Addr)) : List (Key × V) := ls.map fun p => (.inr p.1, .ref p.2)
theorem bk_some {n : Str} {v : V} : ∀ {ls : List (Str × Addr)}, valV (bk ls) (Sum.inr n : Key) = some v → ∃ a, (n, a) ∈ ls ∧ v = .ref a
  | [], h => by cases h
  | (x, a) :: ls, h => by
    by_cases e : x = n
    · subst e
      have h2 : valV (bk ((x, a) :: ls)) (Sum.inr x : Key) = some (.ref a) := valV_pos rfl
      rw [h2] at h
      cases h
      exact ⟨a, List.mem_cons_self, rfl⟩
    · have h2 : valV (bk ((x, a) :: ls)) (Sum.inr n : Key) = valV (bk ls) (Sum.inr n : Key) := valV_neg fun q => e (by injection q)
      rw [h2] at h
      obtain ⟨b, hb, ev⟩ := bk_some h
      exact ⟨b, List.mem_cons_of_mem _ hb, ev⟩
theorem bk_none {n : Str} : ∀ {ls : List (Str × Addr)}, valV (bk ls) (Sum.inr n : Key) = none → n ∉ ls.map (·.1)
  | [], _ => by simp
  | (x, a) :: ls, h => by
    by_cases e : x = n
    · subst e
      have h2 : valV (bk ((x, a) :: ls)) (Sum.inr x : Key) = some (.ref a) := valV_pos rfl
      rw [h2] at h
      cases h
    · have h2 : valV (bk ((x, a) :: ls)) (Sum.inr n : Key) = valV (bk ls) (Sum.inr n : Key) := valV_neg fun q => e (by injection q)
      rw [h2] at h
      have := bk_none h
      simp only [List.map_cons, List.mem_cons, not_or]
      exact ⟨fun q => e q.symm, this⟩
structure Bear (H0 H : Hp) (d : Addr) (rs : List Rg) (ls : List (Str × Addr)) : Prop where
  dict : H d = some (.dK (bk ls))
  nd : (ls.map (·.1)).Nodup
  nda : (ls.map (·.2)).Nodup
  at_ : ∀ p ∈ ls, H p.2 = some (.lst ((bears p.1 rs).map V.bl)) ∧ H0 p.2 = none ∧ p.2 ≠ d
  all_ : ∀ r ∈ rs, r.e.k ≠ .unlatch → r.e.n ∈ ls.map (·.1)
  len : ls.length ≤ rs.length
theorem bears_nil {n : Str} {rs : List Rg} (h : ∀ r ∈ rs, r.e.k ≠ .unlatch → r.e.n ≠ n) : bears n rs = [] := by
  unfold bears
  rw [List.filter_eq_nil_iff.mpr]
  · rfl
  · intro r hr q
    simp only [Bool.and_eq_true, decide_eq_true_eq, Bool.not_eq_true', decide_eq_false_iff_not] at q
    exact h r hr q.2 q.1
theorem bears_len (n : Str) (rs : List Rg) : (bears n rs).length ≤ rs.length := by
  unfold bears
  rw [List.length_map]
  exact List.length_filter_le _ _
theorem nodup_key {α β : Type} {f : α → β} : ∀ {l : List α} {a b : α}, (l.map f).Nodup → a ∈ l → b ∈ l → f a = f b → a = b
  | x :: l, a, b, h, ha, hb, e => by
    rw [List.map_cons, List.nodup_cons] at h
    rcases List.mem_cons.mp ha with ea | ha2
    · rcases List.mem_cons.mp hb with eb | hb2
      · rw [ea, eb]
      · exact absurd (List.mem_map.mpr ⟨b, hb2, by rw [← e, ea]⟩) h.1
    · rcases List.mem_cons.mp hb with eb | hb2
      · exact absurd (List.mem_map.mpr ⟨a, ha2, by rw [e, eb]⟩) h.1
      · exact nodup_key h.2 ha2 hb2 e
/-- an unlatch bears nothing -/
theorem Bear.pass {H0 H : Hp} {d : Addr} {rs : List Rg} {ls : List (Str × Addr)} {r : Rg} (b : Bear H0 H d rs ls) (h : r.e.k = .unlatch) : Bear H0 H d (rs ++ [r]) ls := by
  refine ⟨b.dict, b.nd, b.nda, fun p hp => ?_, fun q hq hk => ?_, by rw [List.length_append]; have := b.len; omega⟩
  · rw [bears_snoc, if_neg (by rw [decide_eq_true h]; simp)]
    exact b.at_ p hp
  · rcases List.mem_append.mp hq with hq | hq
    · exact b.all_ q hq hk
    · rw [List.mem_singleton.mp hq] at hk
      exact absurd h hk
/-- one more at a name that stands there -/
theorem Bear.more {H0 H H1 : Hp} {d a : Addr} {rs : List Rg} {ls : List (Str × Addr)} {r : Rg} (b : Bear H0 H d rs ls) (s : Same H H1) (h : r.e.k ≠ .unlatch) (ha : (r.e.n, a) ∈ ls) :
    H1 a = some (.lst ((bears r.e.n rs).map V.bl)) ∧ Bear H0 (upd H1 a (.lst ((bears r.e.n rs).map V.bl ++ [.bl r.e.k.counts]))) d (rs ++ [r]) ls := by
  obtain ⟨h1, h2, h3⟩ := b.at_ _ ha
  refine ⟨s _ _ h1, ⟨by rw [upd_ne h3.symm]; exact s _ _ b.dict, b.nd, b.nda, fun p hp => ?_, fun q hq hk => ?_, by rw [List.length_append]; have := b.len; omega⟩⟩
  · obtain ⟨g1, g2, g3⟩ := b.at_ p hp
    refine ⟨?_, g2, g3⟩
    by_cases e : p.1 = r.e.n
    · have ep : p = (r.e.n, a) := nodup_key b.nd hp ha e
      subst ep
      rw [upd_same, bears_snoc, if_pos (by rw [decide_eq_true rfl, decide_eq_false h]; rfl), List.map_append]
      rfl
    · have ne : p.2 ≠ a := fun q => e (by rw [nodup_key (f := Prod.snd) b.nda hp ha q])
      rw [upd_ne ne, bears_snoc, if_neg (by rw [decide_eq_false fun q => e q.symm]; simp)]
      exact s _ _ g1
  · rcases List.mem_append.mp hq with hq | hq
    · exact b.all_ q hq hk
    · rw [List.mem_singleton.mp hq]
      exact List.mem_map.mpr ⟨_, ha, rfl⟩
/-- a new name -/
theorem Bear.new {H0 H : Hp} {d z : Addr} {rs : List Rg} {ls : List (Str × Addr)} {r : Rg} (b : Bear H0 H d rs ls) (s0 : Same H0 H) (h : r.e.k ≠ .unlatch) (hn : r.e.n ∉ ls.map (·.1)) (nz : H z = none) {Hd : Hp} (hd : ∀ c, c ≠ d → Hd c = upd H z (.lst []) c) (hdd : Hd d = some (.dK (bk (ls ++ [(r.e.n, z)])))) :
    Bear H0 (upd Hd z (.lst ([] ++ [.bl r.e.k.counts]))) d (rs ++ [r]) (ls ++ [(r.e.n, z)]) := by
  have zd : z ≠ d := fun e => by rw [e, b.dict] at nz; cases nz
  have nl : ∀ p ∈ ls, p.2 ≠ z := fun p hp e => by
    have := (b.at_ p hp).1
    rw [e, nz] at this
    cases this
  refine ⟨by rw [upd_ne zd.symm]; exact hdd, ?_, ?_, fun p hp => ?_, fun q hq hk => ?_, by rw [List.length_append, List.length_append]; have := b.len; simp; omega⟩
  · rw [List.map_append, List.nodup_append]
    refine ⟨b.nd, by simp, fun x hx y hy e => ?_⟩
    simp at hy
    rw [hy] at e
    exact hn (e ▸ hx)
  · rw [List.map_append, List.nodup_append]
    refine ⟨b.nda, by simp, fun x hx y hy e => ?_⟩
    simp at hy
    rw [hy] at e
    obtain ⟨p, hp, rfl⟩ := List.mem_map.mp hx
    exact nl p hp e
  · rcases List.mem_append.mp hp with hp | hp
    · obtain ⟨g1, g2, g3⟩ := b.at_ p hp
      have e : ¬ r.e.n = p.1 := fun q => hn (q ▸ List.mem_map.mpr ⟨p, hp, rfl⟩)
      refine ⟨?_, g2, g3⟩
      rw [upd_ne (nl p hp), hd _ g3, upd_ne (nl p hp), bears_snoc, if_neg (by rw [decide_eq_false e]; simp)]
      exact g1
    · rw [List.mem_singleton.mp hp]
      refine ⟨?_, s0.free nz, zd⟩
      have e : bears r.e.n rs = [] := bears_nil fun q hq hk e => hn (e ▸ b.all_ q hq hk)
      show upd Hd z _ z = _
      rw [upd_same]
      show _ = some (HO.lst ((bears r.e.n (rs ++ [r])).map V.bl))
      rw [bears_snoc, if_pos (by rw [decide_eq_true rfl, decide_eq_false h]; rfl), e]
      rfl
  · rcases List.mem_append.mp hq with hq | hq
    · rw [List.map_append]
      exact List.mem_append_left _ (b.all_ q hq hk)
    · rw [List.mem_singleton.mp hq, List.map_append]
      exact List.mem_append_right _ (by simp)
def overs (rs : List Rg) (n : Str) : Bool := decide (1 < (bears n rs).length) && (bears n rs).any id
theorem Bear.crowd_eq {H0 H : Hp} {d : Addr} {rs : List Rg} {ls : List (Str × Addr)} (b : Bear H0 H d rs ls) : crowd rs = (ls.map (·.1)).any (overs rs) := by
  rw [Bool.eq_iff_iff, List.any_eq_true]
  unfold crowd
  rw [List.any_eq_true]
  constructor
  · rintro ⟨r, hr, h⟩
    by_cases hk : ∃ q ∈ rs, q.e.k ≠ .unlatch ∧ q.e.n = r.e.n
    · obtain ⟨q, hq, h1, h2⟩ := hk
      exact ⟨r.e.n, h2 ▸ b.all_ q hq h1, h⟩
    · rw [bears_nil fun q hq h1 h2 => hk ⟨q, hq, h1, h2⟩] at h
      cases h
  · rintro ⟨n, _, h⟩
    by_cases hk : ∃ q ∈ rs, q.e.k ≠ .unlatch ∧ q.e.n = n
    · obtain ⟨q, hq, h1, rfl⟩ := hk
      exact ⟨q, hq, h⟩
    · unfold overs at h
      rw [bears_nil fun q hq h1 h2 => hk ⟨q, hq, h1, h2⟩] at h
      cases h
def spOwn (K : PySem.W.Frag) (cs : Cs) (xc : Xc) : Sp := fun vs H Q E => ∃ (t : Addr) (ws : List V) (rs : List Rg), vs = [.ref t] ∧ Tp K H t ws ∧ Two (IsR cs H) ws rs ∧ rs.length ≤ 1000 ∧ (crowd rs = false → ∀ H', Same H H' → Q .non H') ∧ (crowd rs = true → ∀ H', Same H H' → E (.ref xc.ladder) none H')
theorem ok_own (T : TLad K mg cs cc xc) : FnAt P w K mg base (L2.CX P w) "need_own" 1 ["rungs"] (spOwn K cs xc) := by
  have e_NoLadder := T.exs.e_ladder
  refine fnAt_okX T.d_own sc_need_own (fun vs H Q E h => ?_) (fun f cdv A outer s H vs Q E hr h => ?_)
  · obtain ⟨t, ws, rs, rfl, _⟩ := h; rfl
  · obtain ⟨t, ws, rs, rfl, ht, hw, hl, q, qx⟩ := h
    have hlen := hw.length
    refine ⟨_, (pss_cons (ps_set (i := 1) sc_need_own.nd rfl (by first | exact Or.inl rfl | exact Or.inr rfl) pe_dnewK)
        (pss_cons (ps_for (L2.passes_of rfl) rfl (pi_tup (pv 0)) (pg_name (i := 2) sc_need_own.nd rfl (by first | exact Or.inl rfl | exact Or.inr rfl)) (pss_one (ps_if (pt_not (pt_val (pe_callB (call_isO T.is_Unlatch) (by rfl) T.z_isinstance (by decide +kernel) (pa_cons (pe_fld (pv 2) rfl) (pa_cons (pe_cls T.c_Unlatch) pa_nil))))) (pss_one (ps_expr (pe_bm PySem.F.plainAttrs_list PySem.F.slot_list_append PySem.F.type_list_append mt_append (pe_dsetd (pv 1) (pe_fld (pe_fld (pv 2) rfl) rfl) (pe_lst pa_nil) (by constructor <;> rfl)) (pa_cons (pe_callB (call_isO T.is_Counting) (by rfl) T.z_isinstance (by decide +kernel) (pa_cons (pe_fld (pv 2) rfl) (pa_cons (pe_cls T.c_Counting) pa_nil))) pa_nil)))) pss_nil)))
        (pss_one (ps_lock (ps_for (L2.passes_of rfl) rfl (pi_items (pv 1)) (pg_tup rfl (pgs_cons (pg_name (i := 3) sc_need_own.nd rfl (by first | exact Or.inl rfl | exact Or.inr rfl)) (pgs_cons (pg_name (i := 4) sc_need_own.nd rfl (by first | exact Or.inl rfl | exact Or.inr rfl)) pgs_nil))) (pss_one (ps_if (PW.pt (pw_and (pt_cmpR op_gt (pe_callB call_len_seq (by rfl) T.z_len PySem.boot_len (pa_cons (pv 4) pa_nil)) pe_int (nomark _)) (pw_and1 (pt_val (pe_callB (cr_any rfl) (by rfl) T.z_any (by decide +kernel) (pa_cons (pv 4) pa_nil)))))) (pss_one (ps_raiseO rfl e_NoLadder (L2.takes_of rfl rfl rfl rfl))) pss_nil))))))), ?_⟩
    walk_at "rd"
    refine fun d nd => ⟨_, rfl, t, rfl, ⟨_, (ht.mono (Same.imm0 (Same.new nd))).seq⟩,
      for_tup (K := K) (a := t) (xs := ws) (fun i σ H' => ∃ (v2 : Option V) (ls : List (Str × Addr)), σ = [some (.ref t), some (.ref d), v2, none, none] ∧ Same H H' ∧ Bear H H' d (rs.take i) ls)
        ⟨none, [], rfl, Same.new nd, ⟨upd_same, by simp, by simp, by simp, by simp, by simp⟩⟩ (fun i σ H' _ ⟨_, _, _, s, _⟩ => (ht.mono (Same.imm0 s)).seq) ?_ ?_⟩
    · rintro i x σ H1 hx ⟨v2, ls, rfl, s1, hB⟩
      obtain ⟨r, hr', x', dx', p', q', rfl, hx', _, hq'⟩ := hw.at hx
      obtain ⟨e, dx2, rfl, he⟩ := hq'
      have hi := List.getElem?_eq_some_iff.mp hr'
      have htk : rs.take (i + 1) = rs.take i ++ [r] := by rw [List.take_succ, hr']; rfl
      rw [htk]
      refine ⟨_, rfl, x', _, dx', _, _, rfl, s1 _ _ hx', T.c_Rung.cl, T.ne_rg, lkR2, e, _, dx2, _, _, rfl, s1 _ _ he, ⟨r.e.k, rfl, rfl⟩, _, rfl, ?_⟩
      by_cases hk : r.e.k = .unlatch
      · rw [decide_eq_true hk]
        exact iteF ⟨_, ls, rfl, s1, hB.pass hk⟩
      · rw [decide_eq_false hk]
        refine iteT ?_
        have hll : ls.length < sizeLine := by
          have := hB.len
          rw [List.length_take] at this
          rw [sizeLine_eq]
          omega
        refine ⟨_, rfl, d, rfl, .inl ⟨_, .inl hB.dict⟩, _, rfl, x', _, dx', _, _, rfl, s1 _ _ hx', T.c_Rung.cl, T.ne_rg, lkR2, e, _, dx2, _, _, rfl, s1 _ _ he, T.enk.ends.cls _, T.enk.ends.nn _, E_name _, Nat.zero_le _, fun z nz => ?_⟩
        have sz : Same H1 (upd H1 z (.lst [])) := Same.new nz
        refine ⟨bk ls, .inr r.e.n, sz _ _ hB.dict, rfl, by rw [bk, List.length_map]; exact hll, fun v hv => ?_, fun hn => ?_⟩
        · obtain ⟨a, ha, rfl⟩ := bk_some hv
          obtain ⟨g1, g2⟩ := hB.more sz hk ha
          refine ⟨.inl ⟨rfl, _, SqL.of g1⟩, _, rfl, x', _, dx', _, _, rfl, sz _ _ (s1 _ _ hx'), T.c_Rung.cl, T.ne_rg, lkR2, e, _, dx2, _, _, rfl, sz _ _ (s1 _ _ he), ⟨r.e.k, rfl, rfl⟩, a, _, _, rfl, rfl, g1, ?_, ?_⟩
          · have := bears_len r.e.n (rs.take i)
            rw [List.length_take] at this
            rw [List.length_map, sizeLine_eq]
            omega
          · exact ⟨_, ls, rfl, Same.mut (s1.trans sz) (hB.at_ _ ha).2.1, g2⟩
        · have zd : z ≠ d := fun q => by rw [q, hB.dict] at nz; cases nz
          have hput : putK (bk ls) (Sum.inr r.e.n : Key) (.ref z) = bk (ls ++ [(r.e.n, z)]) := by
            rw [putK_new _ hn, bk, bk, List.map_append]
            rfl
          rw [hput]
          have hB2 := hB.new s1 hk (bk_none hn) nz (Hd := upd (upd H1 z (.lst [])) d (.dK (bk (ls ++ [(r.e.n, z)])))) (fun c hc => upd_ne hc) upd_same
          have sd : Same H (upd (upd H1 z (.lst [])) d (.dK (bk (ls ++ [(r.e.n, z)])))) := Same.mut (s1.trans sz) nd
          have hz : upd (upd H1 z (.lst [])) d (.dK (bk (ls ++ [(r.e.n, z)]))) z = some (.lst []) := by rw [upd_ne zd, upd_same]
          generalize upd (upd H1 z (.lst [])) d (.dK (bk (ls ++ [(r.e.n, z)]))) = H2 at hB2 sd hz ⊢
          refine ⟨.inl ⟨rfl, _, SqL.of hz⟩, _, rfl, x', _, dx', _, _, rfl, sd _ _ hx', T.c_Rung.cl, T.ne_rg, lkR2, e, _, dx2, _, _, rfl, sd _ _ he, ⟨r.e.k, rfl, rfl⟩, z, _, _, rfl, rfl, hz, by show 0 < sizeLine; rw [sizeLine_eq]; decide, ?_⟩
          exact ⟨_, _, rfl, Same.mut sd (s1.free nz), hB2⟩
    · rintro σ H1 ⟨v2, ls, rfl, s1, hB⟩
      rw [hlen, List.take_length] at hB
      refine ⟨d, _, hB.dict, trivial, fun od => ?_⟩
      have sf : Same H (upd H1 d (.frz od (.dK (bk ls)))) := Same.mut s1 nd
      have hkeep : ∀ p ∈ ls, upd H1 d (.frz od (.dK (bk ls))) p.2 = some (.lst ((bears p.1 rs).map V.bl)) := fun p hp => by
        rw [upd_ne (hB.at_ p hp).2.2]
        exact (hB.at_ p hp).1
      have hfd : upd H1 d (.frz od (.dK (bk ls))) d = some (.frz od (.dK (bk ls))) := upd_same
      generalize upd H1 d (.frz od (.dK (bk ls))) = Hf at sf hkeep hfd ⊢
      refine ⟨_, rfl, d, od, bk ls, rfl, hfd, for_it walk_items (fun i σ H' => ∃ v2 v3 v4 : Option V, σ = [some (.ref t), some (.ref d), v2, v3, v4] ∧ Same Hf H' ∧ ∀ p ∈ ls.take i, overs rs p.1 = false) ⟨_, _, _, rfl, Same.refl _, by simp⟩ (fun i σ H' _ ⟨_, _, _, _, s, _⟩ => s _ _ hfd) ?_ ?_⟩
      · rintro i x σ H2 H3 hi ⟨v2, v3, v4, rfl, s2, hA⟩ ⟨T', y, z, rfl, nT, rfl, hy, hz⟩
        rw [bk, List.length_map] at hi
        have hli : ls[i]? = some ls[i] := List.getElem?_eq_getElem hi
        have hmem : ls[i] ∈ ls := List.getElem_mem hi
        have hkv : (bk ls)[i]? = some (Sum.inr (ls[i]).1, .ref (ls[i]).2) := by rw [bk, List.getElem?_map, hli]; rfl
        simp only [hkv, Option.map_some, Option.some.injEq] at hy hz
        subst hy hz
        have sT : Same H2 (upd H2 T' (.tup [kV (Sum.inr (ls[i]).1 : Key), .ref (ls[i]).2])) := Same.new nT
        have hl2 := sT _ _ (s2 _ _ (hkeep _ hmem))
        refine ⟨T', _, rfl, SqT.of upd_same, rfl, ?_⟩
        walk_at "rd"
        have hA2 : overs rs (ls[i]).1 = false → ∀ p ∈ ls.take (i + 1), overs rs p.1 = false := fun h p hp => by
          rw [List.take_succ, hli] at hp
          rcases List.mem_append.mp hp with hp | hp
          · exact hA p hp
          · rw [List.mem_singleton.mp hp]
            exact h
        refine ⟨_, .inl (SqL.of hl2), ?_⟩
        rw [List.length_map]
        by_cases h1 : (1 : Int) < ((bears (ls[i]).1 rs).length : Int)
        · rw [decide_eq_true h1]
          refine iteT ⟨_, _, rfl, SqL.of hl2, _, rfl, ?_⟩
          have hov : overs rs (ls[i]).1 = (bears (ls[i]).1 rs).any id := by
            unfold overs
            rw [decide_eq_true (by omega), Bool.true_and]
          cases hany : (bears (ls[i]).1 rs).any id with
          | true =>
            refine iteT (qx ?_ _ (sf.trans (s2.trans sT)))
            rw [hB.crowd_eq, List.any_eq_true]
            exact ⟨_, List.mem_map.mpr ⟨_, hmem, rfl⟩, by rw [hov, hany]⟩
          | false => exact iteF ⟨_, _, _, ⟨rfl, rfl, rfl⟩, s2.trans sT, hA2 (by rw [hov, hany])⟩
        · rw [decide_eq_false h1]
          refine iteF ⟨_, _, _, ⟨rfl, rfl, rfl⟩, s2.trans sT, hA2 ?_⟩
          unfold overs
          rw [decide_eq_false (by omega), Bool.false_and]
      · rintro σ H2 ⟨v2, v3, v4, rfl, s2, hA⟩
        rw [bk, List.length_map, List.take_length] at hA
        refine ⟨s2 _ _ hfd, q ?_ _ (Same.mut (sf.trans s2) nd)⟩
        rw [hB.crowd_eq, ← Bool.not_eq_true, List.any_eq_true]
        rintro ⟨n, hn, h⟩
        obtain ⟨p, hp, rfl⟩ := List.mem_map.mp hn
        rw [hA p hp] at h
        cases h
def rTupOf (K : PySem.W.Frag) : List V → Hp → VK → Prop := fun xs H Q => ∃ p, xs = [V.ref p] ∧ ∃ x, (SqL K H p x ∧ ∀ (l : Addr), H l = none → Q (V.ref l) (upd H l (HO.tup x))) ∨ SqT K H p x ∧ Q (V.ref p) H
theorem sq2_tuple {K : PySem.W.Frag} {H0 H : Hp} {i : Addr} {xs : List V} {σ : L2.St} {k : Nat} {Q : VK} (hσ : σ[k]? = some (some (.ref i))) (s : Same H0 H) (h : H0 i = some (.lst xs) ∨ Tp K H0 i xs) (q : ∀ (H' : Hp) (t : Addr), Same H H' → Tp K H' t xs → Q (.ref t) H') :
    tCB (rTupOf K) (tCons (tVar k) tNil) σ H Q := by
  refine ⟨_, hσ, ?_⟩
  show rTupOf K [.ref i] H Q
  rcases h with h | h
  · exact ⟨i, rfl, xs, .inl ⟨SqL.of (s _ _ h), fun t nt => q _ t (Same.new nt) (.inl upd_same)⟩⟩
  · exact ⟨i, rfl, xs, .inr ⟨(h.mono (Same.imm0 s)).seq, q H i (Same.refl H) (h.mono (Same.imm0 s))⟩⟩
theorem cat_tp {K : PySem.W.Frag} {H : Hp} {a b : Addr} {xs ys : List V} {R : V → Hp → Prop} (h1 : Tp K H a xs) (h2 : Tp K H b ys) (hl : xs.length + ys.length ≤ 1000000) (k : ∀ (H' : Hp) (p : Addr), Same H H' → Tp K H' p (xs ++ ys) → R (.ref p) H') : rCatA K (.ref a) (.ref b) H R := by
  refine ⟨a, b, xs, ys, rfl, rfl, h1.seq, h2.seq, line_ge hl, fun e => k H b (Same.refl H) (by rw [e]; exact h2), fun _ e => k H a (Same.refl H) (by rw [e, List.append_nil]; exact h1), fun _ _ p np => k _ p (Same.new np) (.inl upd_same)⟩
theorem filter_snoc {α : Type} (f : α → Bool) {l : List α} {i : Nat} {x : α} (h : l[i]? = some x) : (l.take (i + 1)).filter f = if f x = true then (l.take i).filter f ++ [x] else (l.take i).filter f := by
  rw [List.take_succ, h, List.filter_append]
  simp only [Option.toList, List.filter_cons, List.filter_nil]
  split <;> simp
theorem fair_iff (l : Lad) : l.fair = true ↔ l.ins.length ≤ 6 ∧ l.ins.Nodup ∧ (1 ≤ l.outs.length ∧ l.outs.length ≤ 6) ∧ l.outs.Nodup ∧ (1 ≤ l.rs.length ∧ l.rs.length ≤ 30) ∧ (∀ n ∈ l.ins, n ∉ writ l.rs) ∧ (∀ n ∈ l.outs, n ∈ writ l.rs) ∧ crowd l.rs = false ∧ (writ l.rs).length ≤ 20 := by
  unfold Lad.fair
  simp only [Bool.and_eq_true, decide_eq_true_eq, List.all_eq_true, Bool.not_eq_true', decide_eq_false_iff_not, and_assoc]
def Lad.bad (l : Lad) : Option Xk := if l.named = true then (if l.fair = true then none else some .ladder) else some .name
/-- the arguments of Ladder: lists or tuples -/
def Sq2 (K : PySem.W.Frag) (H : Hp) (a : Addr) (xs : List V) : Prop := H a = some (.lst xs) ∨ Tp K H a xs
def spInitLd (K : PySem.W.Frag) (cs : Cs) (xc : Xc) : Sp := fun vs H Q E => ∃ (H0 : Hp) (x dx i o r : Addr) (ws : List V) (l : Lad), vs = [.ref x, .ref i, .ref o, .ref r] ∧ H x = some (.ins cs.ld dx []) ∧ Same H0 H ∧ H0 x = none ∧
  Sq2 K H0 i (l.ins.map V.str) ∧ Sq2 K H0 o (l.outs.map V.str) ∧ Sq2 K H0 r ws ∧ Two (IsR cs H0) ws l.rs ∧ l.ins.length ≤ 1000 ∧ l.outs.length ≤ 1000 ∧ l.rs.length ≤ 1000 ∧ (∀ n ∈ l.ins ++ l.outs, n.length ≤ 1000000) ∧
  (l.bad = none → ∀ H', Same H0 H' → IsL K cs H' (.ref x) l → Q .non H') ∧ (∀ b, l.bad = some b → ∀ H', Same H0 H' → E (.ref (xc.at b)) none H')
theorem ok_init_ld (T : TLad K mg cs cc xc) : MakAt P w K mg base (L2.CX P w) "Ladder" cs.ld 3 ["self", "inputs", "outputs", "rungs"] (spInitLd K cs xc) := by
  have G_is_name : FnAt P w K mg base CX0 "is_name" 2 _ spIsName := ok_is_name T.enk.ends.names
  have GX_need_between : FnAt P w K mg base (L2.CX P w) "need_between" 1 _ (spBetween K xc) := ok_between T
  have GX_need_single : FnAt P w K mg base (L2.CX P w) "need_single" 1 _ (spSingleN K xc) := ok_single1 T
  have GX_need_own : FnAt P w K mg base (L2.CX P w) "need_own" 1 _ (spOwn K cs xc) := ok_own T
  have G_written_names : DispAt P w K mg base CX0 (fun C => C = cs.ld) "written_names" 1 ["self"] (fun _ => spWrit K cs) := disp_written T
  have e_NoName := T.exs.e_name
  have e_NoLadder := T.exs.e_ladder
  refine makAt_of T.c_Ladder (methAt_okX T.c_Ladder.cl T.i_ld sc_Ladder___init__ (fun vs H Q E h => ?_) (fun f cdv A outer s H vs Q E hr h => ?_))
  · obtain ⟨H0, x, dx, i, o, r, ws, l, rfl, _⟩ := h; rfl
  · obtain ⟨H0, x, dx, i, o, r, ws, l, rfl, hx, s0, n0, hi, ho, hr2, hw, li, lo, lr, ln, q, qx⟩ := h
    have hu := hu_of hr
    refine ⟨_, (pss_cons (ps_fld (pv 0) (pe_callTy call_tuple_of (by rfl) T.z_tuple (show PySem.bootBuiltins "tuple" = some (.type "tuple") by decide +kernel) (pa_cons (pv 1) pa_nil)) rfl)
        (pss_cons (ps_fld (pv 0) (pe_callTy call_tuple_of (by rfl) T.z_tuple (show PySem.bootBuiltins "tuple" = some (.type "tuple") by decide +kernel) (pa_cons (pv 2) pa_nil)) rfl)
        (pss_cons (ps_fld (pv 0) (pe_callTy call_tuple_of (by rfl) T.z_tuple (show PySem.bootBuiltins "tuple" = some (.type "tuple") by decide +kernel) (pa_cons (pv 3) pa_nil)) rfl)
        (pss_cons (ps_for (L2.passes_of rfl) rfl (pi_tup (pe_op op_catA (pe_fld (pv 0) rfl) (pe_fld (pv 0) rfl))) (pg_name (i := 4) sc_Ladder___init__.nd rfl (by first | exact Or.inl rfl | exact Or.inr rfl)) (pss_one (ps_if (pt_not (pt_val (pe_callF G_is_name hr pass0 (pa_cons (pv 4) pa_nil)))) (pss_one (ps_raiseO rfl e_NoName (L2.takes_of rfl rfl rfl rfl))) pss_nil)))
        (pss_cons (ps_expr (pe_callF GX_need_between hr (passX (L2.takes_of rfl rfl rfl rfl)) (pa_cons (pe_fld (pv 0) rfl) (pa_cons pe_int (pa_cons (pe_gc T.g_MOST_NAMES) pa_nil)))))
        (pss_cons (ps_expr (pe_callF GX_need_single hr (passX (L2.takes_of rfl rfl rfl rfl)) (pa_cons (pe_fld (pv 0) rfl) pa_nil)))
        (pss_cons (ps_expr (pe_callF GX_need_between hr (passX (L2.takes_of rfl rfl rfl rfl)) (pa_cons (pe_fld (pv 0) rfl) (pa_cons pe_int (pa_cons (pe_gc T.g_MOST_NAMES) pa_nil)))))
        (pss_cons (ps_expr (pe_callF GX_need_single hr (passX (L2.takes_of rfl rfl rfl rfl)) (pa_cons (pe_fld (pv 0) rfl) pa_nil)))
        (pss_cons (ps_expr (pe_callF GX_need_between hr (passX (L2.takes_of rfl rfl rfl rfl)) (pa_cons (pe_fld (pv 0) rfl) (pa_cons pe_int (pa_cons (pe_gc T.g_MOST_RUNGS) pa_nil)))))
        (pss_cons (ps_set (i := 5) sc_Ladder___init__.nd rfl (by first | exact Or.inl rfl | exact Or.inr rfl) (pe_methD0 G_written_names hr pass0 (pv 0)))
        (pss_cons (ps_if (pt_cmpR (op_neE hr.units0) (pe_lc (own := [("name", 4)]) (g := gName 4) rfl sc_Ladder___init__.nd (pi_tup (pe_fld (pv 0) rfl)) (blkOk_by (own := [("name", 4)]) (N := ["self", "inputs", "outputs", "rungs", "name", "names"]) (sc := defScope s_Ladder___init__) (by decide +kernel)) (fun _ _ _ _ _ => pg_name (i := 4) sc_Ladder___init__.nd rfl (Or.inl rfl)) (fun _ _ _ _ _ => (pts_one (pt_cmpR (op_inK K rfl) (pv 4) (pv 5) rfl))) (fun _ _ _ _ _ => (pv 4))) (pe_lst pa_nil) (nomark _)) (pss_one (ps_raiseO rfl e_NoLadder (L2.takes_of rfl rfl rfl rfl))) pss_nil)
        (pss_cons (ps_if (pt_cmpR (op_neE hr.units0) (pe_lc (own := [("name", 4)]) (g := gName 4) rfl sc_Ladder___init__.nd (pi_tup (pe_fld (pv 0) rfl)) (blkOk_by (own := [("name", 4)]) (N := ["self", "inputs", "outputs", "rungs", "name", "names"]) (sc := defScope s_Ladder___init__) (by decide +kernel)) (fun _ _ _ _ _ => pg_name (i := 4) sc_Ladder___init__.nd rfl (Or.inl rfl)) (fun _ _ _ _ _ => (pts_one (pt_cmpR (op_notInK K rfl) (pv 4) (pv 5) rfl))) (fun _ _ _ _ _ => (pv 4))) (pe_lst pa_nil) (nomark _)) (pss_one (ps_raiseO rfl e_NoLadder (L2.takes_of rfl rfl rfl rfl))) pss_nil)
        (pss_cons (ps_expr (pe_callF GX_need_own hr (passX (L2.takes_of rfl rfl rfl rfl)) (pa_cons (pe_fld (pv 0) rfl) pa_nil)))
        (pss_one (ps_expr (pe_callF GX_need_between hr (passX (L2.takes_of rfl rfl rfl rfl)) (pa_cons (pv 5) (pa_cons pe_int (pa_cons (pe_gc T.g_MOST_WRITTEN) pa_nil))))))))))))))))))), ?_⟩
    walk_at "rd"
    refine sq2_tuple (k := 1) (σ := [some (.ref x), some (.ref i), some (.ref o), some (.ref r), none, none]) rfl s0 hi fun Ha ti sa ta => ?_
    have hxa := sa _ _ hx
    refine ⟨_, rfl, x, _, dx, [], rfl, hxa, T.c_Ladder.cl, T.ni_ld, (by show 0 < 1000; decide), ?_⟩
    have m1 : Imm (fun _ => False) Ha (upd Ha x (.ins cs.ld dx (putF "inputs" (.ref ti) []))) := Imm.mut hxa id
    have s1 : Same H0 (upd Ha x (.ins cs.ld dx (putF "inputs" (.ref ti) []))) := Same.mut (s0.trans sa) n0
    have ta1 := ta.mono m1
    have hx1 : upd Ha x (.ins cs.ld dx (putF "inputs" (.ref ti) [])) x = some (.ins cs.ld dx [("inputs", .ref ti)]) := upd_same
    generalize upd Ha x (.ins cs.ld dx (putF "inputs" (.ref ti) [])) = H1 at s1 ta1 hx1 ⊢
    walk_at "rd"
    refine sq2_tuple (k := 2) (σ := [some (.ref x), some (.ref i), some (.ref o), some (.ref r), none, none]) rfl s1 ho fun Hb tt sb tb => ?_
    have hxb := sb _ _ hx1
    refine ⟨_, rfl, x, _, dx, _, rfl, hxb, T.c_Ladder.cl, T.no_ld, (by show 1 < 1000; decide), ?_⟩
    have m2 : Imm (fun _ => False) Hb (upd Hb x (.ins cs.ld dx (putF "outputs" (.ref tt) [("inputs", .ref ti)]))) := Imm.mut hxb id
    have s2 : Same H0 (upd Hb x (.ins cs.ld dx (putF "outputs" (.ref tt) [("inputs", .ref ti)]))) := Same.mut (s1.trans sb) n0
    have ta2 := (ta1.mono (Same.imm0 sb)).mono m2
    have tb2 := tb.mono m2
    have hx2 : upd Hb x (.ins cs.ld dx (putF "outputs" (.ref tt) [("inputs", .ref ti)])) x = some (.ins cs.ld dx [("inputs", .ref ti), ("outputs", .ref tt)]) := upd_same
    generalize upd Hb x (.ins cs.ld dx (putF "outputs" (.ref tt) [("inputs", .ref ti)])) = H2 at s2 ta2 tb2 hx2 ⊢
    walk_at "rd"
    refine sq2_tuple (k := 3) (σ := [some (.ref x), some (.ref i), some (.ref o), some (.ref r), none, none]) rfl s2 hr2 fun Hc tr sc tc => ?_
    have hxc := sc _ _ hx2
    refine ⟨_, rfl, x, _, dx, _, rfl, hxc, T.c_Ladder.cl, T.nr_ld, (by show 2 < 1000; decide), ?_⟩
    have m3 : Imm (fun _ => False) Hc (upd Hc x (.ins cs.ld dx (putF "rungs" (.ref tr) [("inputs", .ref ti), ("outputs", .ref tt)]))) := Imm.mut hxc id
    have s3 : Same H0 (upd Hc x (.ins cs.ld dx (putF "rungs" (.ref tr) [("inputs", .ref ti), ("outputs", .ref tt)]))) := Same.mut (s2.trans sc) n0
    have t1 := (ta2.mono (Same.imm0 sc)).mono m3
    have t2 := (tb2.mono (Same.imm0 sc)).mono m3
    have t3 := tc.mono m3
    have hx3 : upd Hc x (.ins cs.ld dx (putF "rungs" (.ref tr) [("inputs", .ref ti), ("outputs", .ref tt)])) x = some (.ins cs.ld dx [("inputs", .ref ti), ("outputs", .ref tt), ("rungs", .ref tr)]) := upd_same
    generalize upd Hc x (.ins cs.ld dx (putF "rungs" (.ref tr) [("inputs", .ref ti), ("outputs", .ref tt)])) = H3 at s3 t1 t2 t3 hx3 ⊢
    clear ta ta1 ta2 tb tb2 tc m1 m2 m3 hx hxa hxb hxc hx1 hx2 s1 s2 sa sb sc hi ho hr2
    have w3 : Two (IsR cs H3) ws l.rs := hw.mono fun _ _ z => z.mono (Same.imm s3)
    have isl : IsL K cs H3 (.ref x) l := ⟨x, dx, ti, tt, tr, ws, rfl, hx3, t1, t2, t3, w3⟩
    walk_at "rd"
    refine ⟨_, rfl, x, _, dx, _, _, rfl, hx3, T.c_Ladder.cl, T.ni_ld, lkL1, _, rfl, x, _, dx, _, _, rfl, hx3, T.c_Ladder.cl, T.no_ld, lkL2, cat_tp t1 t2 (by rw [List.length_map, List.length_map]; omega) fun H4 p4 s4 tp4 => ?_⟩
    rw [← List.map_append] at tp4
    refine ⟨p4, rfl, ⟨_, tp4.seq⟩, for_tup (K := K) (a := p4) (xs := (l.ins ++ l.outs).map V.str) (fun i' σ H' => ∃ v4 : Option V, σ = [some (.ref x), some (.ref i), some (.ref o), some (.ref r), v4, none] ∧ Same H3 H' ∧ Tp K H' p4 ((l.ins ++ l.outs).map V.str) ∧ ∀ n ∈ (l.ins ++ l.outs).take i', isName n = true) ⟨none, rfl, s4, tp4, by simp⟩ (fun i' σ H' _ ⟨_, _, _, tp, _⟩ => tp.seq) ?_ ?_⟩
    · rintro i' y σ H5 hy ⟨v4, rfl, s5, tp5, hA⟩
      rw [List.getElem?_map] at hy
      obtain ⟨n, hn, rfl⟩ := Option.map_eq_some_iff.mp hy
      have hm := List.mem_of_getElem? hn
      walk_at "rd"
      refine ⟨n, rfl, line_ge (ln n hm), ?_⟩
      cases hnn : isName n with
      | false =>
        refine ⟨false, rfl, iteT (qx .name ?_ _ (s3.trans s5))⟩
        unfold Lad.bad Lad.named
        rw [if_neg]
        intro hall
        rw [List.all_eq_true.mp hall n hm] at hnn
        cases hnn
      | true =>
        refine ⟨true, rfl, iteF ⟨s5, tp5, fun z hz => ?_⟩⟩
        rw [List.take_succ, hn] at hz
        rcases List.mem_append.mp hz with hz | hz
        · exact hA z hz
        · rw [List.mem_singleton.mp hz]
          exact hnn
    rintro σ H5 ⟨v4, rfl, s5, tp5, hA⟩
    rw [List.length_map, List.take_length] at hA
    have hnamed : l.named = true := List.all_eq_true.mpr hA
    have bl : ¬ l.fair = true → l.bad = some .ladder := fun hf => by
      unfold Lad.bad
      rw [if_pos hnamed, if_neg hf]
    have fi := fair_iff l
    walk_at "rd"
    have hx5 := s5 _ _ hx3
    have u1 := t1.mono (Same.imm0 s5)
    have u2 := t2.mono (Same.imm0 s5)
    have u3 := t3.mono (Same.imm0 s5)
    have isl5 := isl.mono (Same.imm s5)
    have w5 : Two (IsR cs H5) ws l.rs := w3.mono fun _ _ z => z.mono (Same.imm s5)
    have s05 := s3.trans s5
    have hwl := w3.length
    clear s3 s5 s4 t1 t2 t3 tp4 tp5 hA hx3 w3 isl hw
    refine ⟨_, rfl, x, _, dx, _, _, rfl, hx5, T.c_Ladder.cl, T.ni_ld, lkL1, ti, _, 0, 6, rfl, u1.seq, fun g1 => ?_, fun h1 => qx .ladder (bl fun hf => h1 (by obtain ⟨f1, _⟩ := fi.mp hf; rw [List.length_map]; omega)) _ s05⟩
    refine ⟨_, rfl, x, _, dx, _, _, rfl, hx5, T.c_Ladder.cl, T.ni_ld, lkL1, ti, l.ins, rfl, u1.seq, li, fun g2 => ?_, fun h1 => qx .ladder (bl fun hf => h1 (fi.mp hf).2.1) _ s05⟩
    refine ⟨_, rfl, x, _, dx, _, _, rfl, hx5, T.c_Ladder.cl, T.no_ld, lkL2, tt, _, 1, 6, rfl, u2.seq, fun g3 => ?_, fun h1 => qx .ladder (bl fun hf => h1 (by obtain ⟨_, _, f1, _⟩ := fi.mp hf; rw [List.length_map]; omega)) _ s05⟩
    refine ⟨_, rfl, x, _, dx, _, _, rfl, hx5, T.c_Ladder.cl, T.no_ld, lkL2, tt, l.outs, rfl, u2.seq, lo, fun g4 => ?_, fun h1 => qx .ladder (bl fun hf => h1 (fi.mp hf).2.2.2.1) _ s05⟩
    refine ⟨_, rfl, x, _, dx, _, _, rfl, hx5, T.c_Ladder.cl, T.nr_ld, lkL3, tr, _, 1, 30, rfl, u3.seq, fun g5 => ?_, fun h1 => qx .ladder (bl fun hf => h1 (by obtain ⟨_, _, _, _, f1, _⟩ := fi.mp hf; rw [hwl]; omega)) _ s05⟩
    rw [List.length_map] at g1 g3
    rw [hwl] at g5
    refine ⟨_, rfl, x, _, dx, _, rfl, hx5, rfl, lkLw, .ref x, l, rfl, isl5, lr, fun H6 p6 s6 h6 => ?_⟩
    have hx6 := s6 _ _ hx5
    have v1 := u1.mono (Same.imm0 s6)
    have wl := writ_len l.rs
    refine ⟨_, rfl, x, _, dx, _, _, rfl, hx6, T.c_Ladder.cl, T.ni_ld, lkL1, ti, rfl, ⟨_, v1.seq⟩, fun D nD => lc_tup (K := K) (a := ti) (xs := l.ins.map V.str) (fun j H' => Same H6 H' ∧ H' D = some (.lst (((l.ins.take j).filter fun n => decide (n ∈ writ l.rs)).map V.str))) ⟨Same.new nD, upd_same⟩ (fun j H' _ q => (v1.mono (Same.imm0 q.1)).seq) ?_ ?_⟩
    · rintro j y H7 hy ⟨s7, hD⟩
      rw [List.getElem?_map] at hy
      obtain ⟨n, hn, rfl⟩ := Option.map_eq_some_iff.mp hy
      rw [filter_snoc _ hn]
      refine ⟨rfl, _, rfl, _, rfl, p6, _, rfl, .inr (SqT.of (s7 _ _ h6)), rfl, all_flatS _, _, rfl, ?_⟩
      have hfl := List.length_filter_le (fun n => decide (n ∈ writ l.rs)) (l.ins.take j)
      rw [List.length_take] at hfl
      rw [if_neg Bool.false_ne_true, inV_strs]
      by_cases hm : n ∈ writ l.rs
      · rw [decide_eq_true hm]
        refine iteT ⟨_, rfl, _, hD, by rw [List.length_map, sizeLine_eq]; omega, Same.mut s7 nD, ?_⟩
        rw [upd_same, if_pos rfl, List.map_append]
        rfl
      · rw [decide_eq_false hm]
        exact iteF ⟨s7, by rw [if_neg Bool.false_ne_true]; exact hD⟩
    rintro H7 ⟨s7, hD⟩
    rw [List.length_map, List.take_length] at hD
    refine ⟨Nat.zero_le _, fun z nz => ⟨D, z, _, rfl, rfl, SqL.of (Same.new nz _ _ hD), SqL.of upd_same, _, rfl, ?_⟩⟩
    have s8 : Same H6 (upd H7 z (.lst [])) := s7.trans (Same.new nz)
    have g6 : (List.map V.str (l.ins.filter fun n => decide (n ∈ writ l.rs))).isEmpty = decide (∀ n ∈ l.ins, n ∉ writ l.rs) := by
      rw [Bool.eq_iff_iff, decide_eq_true_eq, List.isEmpty_iff, List.map_eq_nil_iff, List.filter_eq_nil_iff]
      simp only [decide_eq_true_eq]
    rw [g6]
    by_cases hin : ∀ n ∈ l.ins, n ∉ writ l.rs
    case neg =>
      rw [decide_eq_false hin]
      exact iteT (qx .ladder (bl fun hf => hin (fi.mp hf).2.2.2.2.2.1) _ (s05.trans (s6.trans s8)))
    rw [decide_eq_true hin]
    refine iteF ?_
    generalize upd H7 z (.lst []) = H8 at s8 ⊢
    clear hD nz s7
    have hx8 := s8 _ _ hx6
    have v2 := u2.mono (Same.imm0 (s6.trans s8))
    have h8 := s8 _ _ h6
    refine ⟨_, rfl, x, _, dx, _, _, rfl, hx8, T.c_Ladder.cl, T.no_ld, lkL2, tt, rfl, ⟨_, v2.seq⟩, fun D2 nD2 => lc_tup (K := K) (a := tt) (xs := l.outs.map V.str) (fun j H' => Same H8 H' ∧ H' D2 = some (.lst (((l.outs.take j).filter fun n => !decide (n ∈ writ l.rs)).map V.str))) ⟨Same.new nD2, upd_same⟩ (fun j H' _ q => (v2.mono (Same.imm0 q.1)).seq) ?_ ?_⟩
    · rintro j y H9 hy ⟨s9, hD⟩
      rw [List.getElem?_map] at hy
      obtain ⟨n, hn, rfl⟩ := Option.map_eq_some_iff.mp hy
      rw [filter_snoc _ hn]
      refine ⟨rfl, _, rfl, _, rfl, p6, _, rfl, .inr (SqT.of (s9 _ _ h8)), rfl, all_flatS _, _, rfl, ?_⟩
      have hfl := List.length_filter_le (fun n => !decide (n ∈ writ l.rs)) (l.outs.take j)
      rw [List.length_take] at hfl
      rw [if_pos rfl, inV_strs]
      by_cases hm : n ∈ writ l.rs
      · rw [decide_eq_true hm]
        exact iteF ⟨s9, hD⟩
      · rw [decide_eq_false hm]
        refine iteT ⟨_, rfl, _, hD, by rw [List.length_map, sizeLine_eq]; omega, Same.mut s9 nD2, ?_⟩
        rw [upd_same]
        show _ = some (HO.lst (List.map V.str (List.filter (fun n => !decide (n ∈ writ l.rs)) (List.take j l.outs) ++ [n])))
        rw [List.map_append]
        rfl
    rintro H9 ⟨s9, hD⟩
    rw [List.length_map, List.take_length] at hD
    refine ⟨Nat.zero_le _, fun z nz => ⟨D2, z, _, rfl, rfl, SqL.of (Same.new nz _ _ hD), SqL.of upd_same, _, rfl, ?_⟩⟩
    have s10 : Same H8 (upd H9 z (.lst [])) := s9.trans (Same.new nz)
    have g7 : (List.map V.str (l.outs.filter fun n => !decide (n ∈ writ l.rs))).isEmpty = decide (∀ n ∈ l.outs, n ∈ writ l.rs) := by
      rw [Bool.eq_iff_iff, decide_eq_true_eq, List.isEmpty_iff, List.map_eq_nil_iff, List.filter_eq_nil_iff]
      simp only [Bool.not_eq_true', decide_eq_false_iff_not, Decidable.not_not]
    rw [g7]
    by_cases hout : ∀ n ∈ l.outs, n ∈ writ l.rs
    case neg =>
      rw [decide_eq_false hout]
      exact iteT (qx .ladder (bl fun hf => hout (fi.mp hf).2.2.2.2.2.2.1) _ (s05.trans (s6.trans (s8.trans s10))))
    rw [decide_eq_true hout]
    refine iteF ?_
    have s5z : Same H5 (upd H9 z (.lst [])) := s6.trans (s8.trans s10)
    generalize upd H9 z (.lst []) = Hz at s10 s5z ⊢
    have hxz := s5z _ _ hx5
    have hpz := (s8.trans s10) _ _ h6
    refine ⟨_, rfl, x, _, dx, _, _, rfl, hxz, T.c_Ladder.cl, T.nr_ld, lkL3, tr, ws, l.rs, rfl, u3.mono (Same.imm0 s5z), w5.mono (fun _ _ q => q.mono (Same.imm s5z)), lr, fun hcr Hq sq => ?_, fun hcr Hq sq => qx .ladder (bl fun hf => by rw [(fi.mp hf).2.2.2.2.2.2.2.1] at hcr; cases hcr) _ (s05.trans (s5z.trans sq))⟩
    have hrs : l.rs ≠ [] := by intro e; rw [e] at g5; simp at g5
    have wp := writ_pos hrs
    refine ⟨p6, _, 1, 20, rfl, SqT.of (sq _ _ hpz), fun g9 => ?_, fun h1 => qx .ladder (bl fun hf => h1 (by have := (fi.mp hf).2.2.2.2.2.2.2.2; rw [List.length_map]; omega)) _ (s05.trans (s5z.trans sq))⟩
    rw [List.length_map] at g9
    have hfair : l.fair = true := fi.mpr ⟨by omega, g2, by omega, g4, by omega, hin, hout, hcr, by omega⟩
    refine q ?_ _ (s05.trans (s5z.trans sq)) (isl5.mono (Same.imm (s5z.trans sq)))
    unfold Lad.bad
    rw [if_pos hnamed, if_pos hfair]
end

--%% A4
/-! ## steps: rows and their numbers -/
abbrev s_rows : Stmt := top 26
theorem sc_rows : FnScope ["ladder"] ["ladder"] (defScope s_rows) := ⟨rfl, rfl, rfl, by decide +kernel, rfl, by decide +kernel, by decide +kernel⟩
abbrev s_row_of : Stmt := top 27
theorem sc_row_of : FnScope ["ladder", "number", "k"] ["ladder", "number"] (defScope s_row_of) := ⟨rfl, rfl, rfl, by decide +kernel, rfl, by decide +kernel, by decide +kernel⟩
abbrev s_row_number : Stmt := top 28
theorem sc_row_number : FnScope ["row", "number", "k", "truth"] ["row"] (defScope s_row_number) := ⟨rfl, rfl, rfl, by decide +kernel, rfl, by decide +kernel, by decide +kernel⟩
structure TSteps (K : PySem.W.Frag) (mg : Str → Option Value) (cs : Cs) (cc : Addr) (xc : Xc) : Prop where
  lad : TLad K mg cs cc xc
  d_rows : DefAt K mg "rows" s_rows ["ladder"]
  d_row_of : DefAt K mg "row_of" s_row_of ["ladder", "number"]
  d_row_number : DefAt K mg "row_number" s_row_number ["row"]
  z_len : mg "len" = none
  z_range : mg "range" = none
  z_tuple : mg "tuple" = none
  z_int : mg "int" = none
  z_enumerate : mg "enumerate" = none
section
variable {P : Program} {w : World} {K : PySem.W.Frag} {mg : Str → Option Value} {base : Heap} {cs : Cs} {cc : Addr} {xc : Xc}
def spRows (K : PySem.W.Frag) (cs : Cs) : Sp := fun vs H Q _ => ∃ (v : V) (l : Lad), vs = [v] ∧ IsL K cs H v l ∧ l.ins.length ≤ 60 ∧ Q (.int ((2 ^ l.ins.length : Nat) : Int)) H
theorem ok_rows (T : TSteps K mg cs cc xc) : FnAt P w K mg base CX0 "rows" 1 ["ladder"] (spRows K cs) := by
  refine fnAt_ok T.d_rows sc_rows (fun vs H Q E h => ?_) (fun f cdv A outer s H vs Q E hr h => ?_)
  · obtain ⟨v, l, rfl, _⟩ := h; rfl
  · obtain ⟨v, l, rfl, p, hl, k⟩ := h
    obtain ⟨a, dx, ti, tt, tr, ws, rfl, ha, h1, h2, h3, h4⟩ := p
    refine ⟨_, (pss_one (ps_ret (pe_op op_shl pe_int (pe_callB call_len_seq (by rfl) T.z_len PySem.boot_len (pa_cons (pe_fld (pv 0) rfl) pa_nil))))), ?_⟩
    walk_at "rd"
    have e : (1 : Int) * 2 ^ (((l.ins.map V.str).length : Nat) : Int).toNat = ((2 ^ l.ins.length : Nat) : Int) := by
      rw [Int.toNat_natCast, List.length_map, Int.one_mul, Int.natCast_pow]
      rfl
    refine ⟨_, rfl, a, _, dx, _, _, rfl, ha, T.lad.c_Ladder.cl, T.lad.ni_ld, lkL1, ti, rfl, _, .inr h1.seq, ⟨by omega, by rw [List.length_map]; omega, by decide⟩, ?_⟩
    rw [e]
    exact k
def bitI (k : Nat) (i : Nat) : Bool := k / 2 ^ i % 2 == 1
def rowT (k n : Nat) : List Bool := (List.range n).map (bitI k)
def numB : List Bool → Nat
  | [] => 0
  | b :: l => (if b then 1 else 0) + 2 * numB l
theorem numB_snoc (b : Bool) : ∀ l : List Bool, numB (l ++ [b]) = numB l + (if b then 1 else 0) * 2 ^ l.length
  | [] => by cases b <;> rfl
  | x :: l => by
    rw [List.cons_append, numB, numB, numB_snoc b l, List.length_cons, Nat.pow_succ, Nat.mul_add, ← Nat.mul_assoc, Nat.mul_comm 2 (if b = true then 1 else 0), Nat.mul_assoc, Nat.mul_comm 2 (2 ^ l.length)]
    omega
theorem numB_lt : ∀ l : List Bool, numB l < 2 ^ l.length
  | [] => by decide
  | x :: l => by
    have := numB_lt l
    rw [numB, List.length_cons, Nat.pow_succ]
    cases x <;> simp <;> omega
theorem rowT_succ (k n : Nat) : rowT k (n + 1) = rowT k n ++ [bitI k n] := by unfold rowT; rw [List.range_succ, List.map_append]; rfl
theorem rowT_len (k n : Nat) : (rowT k n).length = n := by unfold rowT; rw [List.length_map, List.length_range]
theorem bit_dec (n i : Nat) : decide (Builtin.bitAnd ((n : Int) / 2 ^ ((i : Nat) : Int).toNat) 1 = 1) = bitI n i := by
  rw [PyProof.Rows.bitAnd_m1, Int.toNat_natCast, Bool.eq_iff_iff, decide_eq_true_eq]
  unfold bitI
  rw [beq_iff_eq]
  have e : ((n : Int) / 2 ^ i) % 2 = ((n / 2 ^ i % 2 : Nat) : Int) := by
    rw [Int.natCast_emod, Int.natCast_ediv, Int.natCast_pow]
    rfl
  rw [e]
  omega
theorem numB_row (n : Nat) : ∀ k, n < 2 ^ k → numB (rowT n k) = n := by
  have key : ∀ k, numB (rowT n k) = n % 2 ^ k := by
    intro k
    induction k with
    | zero => rw [Nat.pow_zero, Nat.mod_one]; rfl
    | succ k ih =>
      rw [rowT_succ, numB_snoc, ih, rowT_len, Nat.mod_pow_succ]
      unfold bitI
      rcases (show n / 2 ^ k % 2 = 0 ∨ n / 2 ^ k % 2 = 1 by omega) with e | e <;> rw [e] <;> simp
  intro k h
  rw [key, Nat.mod_eq_of_lt h]
def spRowOf (K : PySem.W.Frag) (cs : Cs) (xc : Xc) : Sp := fun vs H Q E => ∃ (v : V) (l : Lad) (k : Int), vs = [v, .int k] ∧ IsL K cs H v l ∧ l.ins.length ≤ 60 ∧
  (∀ n : Nat, k = (n : Int) → n < 2 ^ l.ins.length → ∀ (H' : Hp) (t : Addr), Same H H' → H' t = some (.tup ((rowT n l.ins.length).map V.bl)) → Q (.ref t) H') ∧ (¬ (0 ≤ k ∧ k < ((2 ^ l.ins.length : Nat) : Int)) → E (.ref xc.row) none H)
theorem ok_row_of (T : TSteps K mg cs cc xc) : FnAt P w K mg base (L2.CX P w) "row_of" 2 ["ladder", "number"] (spRowOf K cs xc) := by
  have G_rows : FnAt P w K mg base CX0 "rows" 1 _ (spRows K cs) := ok_rows T
  have e_NoRow := T.lad.exs.e_row
  refine fnAt_okX T.d_row_of sc_row_of (fun vs H Q E h => ?_) (fun f cdv A outer s H vs Q E hr h => ?_)
  · obtain ⟨v, l, k, rfl, _⟩ := h; rfl
  · obtain ⟨v, l, k, rfl, p, hl, q, qx⟩ := h
    refine ⟨_, (pss_cons (ps_if (pt_not (pt_chain op_le op_lt pe_int (pv 1) (pe_callF G_rows hr pass0 (pa_cons (pv 0) pa_nil)))) (pss_one (ps_raiseO rfl e_NoRow (L2.takes_of rfl rfl rfl rfl))) pss_nil)
        (pss_one (ps_ret (pe_callTy call_tuple_of (by rfl) T.z_tuple (show PySem.bootBuiltins "tuple" = some (.type "tuple") by decide +kernel) (pa_cons (pe_lc (own := [("k", 2)]) (g := gName 2) (tt := tYes) rfl sc_row_of.nd (pi_range1 rfl T.z_range (pa_cons (pe_callB call_len_seq (by rfl) T.z_len PySem.boot_len (pa_cons (pe_fld (pv 0) rfl) pa_nil)) pa_nil)) (blkOk_by (own := [("k", 2)]) (N := ["ladder", "number", "k"]) (sc := defScope s_row_of) (by decide +kernel)) (fun _ _ _ _ _ => pg_name (i := 2) sc_row_of.nd rfl (Or.inl rfl)) (fun _ _ _ _ _ => pts_nil) (fun _ _ _ _ _ => (pe_cmpR op_eq (pe_op op_and (pe_op op_shr (pv 1) (pv 2)) pe_int) pe_int (nomark _)))) pa_nil))))), ?_⟩
    unfold tChain
    walk_at "rd"
    by_cases h0 : 0 ≤ k
    case neg =>
      rw [decide_eq_false h0]
      exact iteF (qx fun z => h0 z.1)
    rw [decide_eq_true h0]
    refine iteT ⟨v, l, rfl, p, hl, _, rfl, ?_⟩
    by_cases h1 : k < ((2 ^ l.ins.length : Nat) : Int)
    case neg =>
      rw [decide_eq_false h1]
      exact iteT (qx fun z => h1 z.2)
    rw [decide_eq_true h1]
    obtain ⟨n, rfl⟩ := Int.eq_ofNat_of_zero_le h0
    obtain ⟨a, dx, ti, tt, tr, ws, rfl, ha, g1, g2, g3, g4⟩ := p
    refine iteF ⟨_, rfl, a, _, dx, _, _, rfl, ha, T.lad.c_Ladder.cl, T.lad.ni_ld, lkL1, ti, rfl, _, .inr g1.seq, ?_⟩
    rw [List.length_map]
    refine ⟨_, rfl, by omega, by omega, fun D nD => lc_range (lo := 0) (n := l.ins.length) (fun i H' => Same H H' ∧ H' D = some (.lst ((rowT n i).map V.bl))) ⟨Same.new nD, upd_same⟩ ?_ ?_⟩
    · rintro i H2 hi ⟨s2, hD⟩
      refine ⟨rfl, ?_⟩
      unfold tYes
      walk_at "rd"
      rw [Int.zero_add, bit_dec]
      refine ⟨Int.natCast_nonneg i, _, hD, by unfold rowT; rw [List.length_map, List.length_map, List.length_range, sizeLine_eq]; omega, Same.mut s2 nD, ?_⟩
      rw [upd_same, rowT_succ, List.map_append]
      rfl
    · rintro H2 ⟨s2, hD⟩
      exact ⟨D, rfl, _, .inl ⟨SqL.of hD, fun t nt => q n rfl (by omega) _ t (s2.trans (Same.new nt)) upd_same⟩⟩
theorem join_next {bs : List Bool} {i : Nat} {b : Bool} (h : bs[i]? = some b) : Builtin.bitOr (numB (bs.take i) : Nat) ((if b = true then 1 else 0) * 2 ^ ((i : Nat) : Int).toNat) = (numB (bs.take (i + 1)) : Nat) := by
  have hi := (List.getElem?_eq_some_iff.mp h).1
  have hl : (bs.take i).length = i := by rw [List.length_take]; omega
  have h1 := numB_lt (bs.take i)
  rw [hl] at h1
  rw [Int.toNat_natCast, Bits.bitOr_join (Int.natCast_nonneg _) (by exact_mod_cast h1) (by split <;> decide), List.take_succ, h]
  show _ = ((numB (bs.take i ++ [b]) : Nat) : Int)
  rw [numB_snoc, hl, Int.natCast_add, Int.natCast_mul, Int.natCast_pow]
  cases b <;> rfl
def spRowNumber (K : PySem.W.Frag) : Sp := fun vs H Q _ => ∃ (a : Addr) (bs : List Bool), vs = [.ref a] ∧ (SqL K H a (bs.map V.bl) ∨ SqT K H a (bs.map V.bl)) ∧ bs.length ≤ 60 ∧ ∀ H', Same H H' → Q (.int (numB bs : Nat)) H'
theorem ok_row_number (T : TSteps K mg cs cc xc) : FnAt P w K mg base CX0 "row_number" 1 ["row"] (spRowNumber K) := by
  refine fnAt_ok T.d_row_number sc_row_number (fun vs H Q E h => ?_) (fun f cdv A outer s H vs Q E hr h => ?_)
  · obtain ⟨a, bs, rfl, _⟩ := h; rfl
  · obtain ⟨a, bs, rfl, hs, hl, k⟩ := h
    refine ⟨_, (pss_cons (ps_set (i := 1) sc_row_number.nd rfl (by first | exact Or.inl rfl | exact Or.inr rfl) pe_int)
        (pss_cons (ps_for PassesOwn.never rfl (pi_enumA (by rfl) T.z_enumerate (pa_cons (pv 0) pa_nil)) (pg_tup rfl (pgs_cons (pg_name (i := 2) sc_row_number.nd rfl (by first | exact Or.inl rfl | exact Or.inr rfl)) (pgs_cons (pg_name (i := 3) sc_row_number.nd rfl (by first | exact Or.inl rfl | exact Or.inr rfl)) pgs_nil))) (pss_one (ps_set (i := 1) sc_row_number.nd rfl (by first | exact Or.inl rfl | exact Or.inr rfl) (pe_op op_or (pv 1) (pe_op op_shl (pe_callTy call_int1 (by rfl) T.z_int (show PySem.bootBuiltins "int" = some (.type "int") by decide +kernel) (pa_cons (pv 3) pa_nil)) (pv 2))))))
        (pss_one (ps_ret (pv 1))))), ?_⟩
    walk_at "rd"
    refine ⟨_, rfl, a, bs.map V.bl, rfl, ?_⟩
    rcases hs with hs | hs
    · refine .inl ⟨hs, for_it walk_enum (fun i σ H' => ∃ v2 v3 : Option V, σ = [some (.ref a), some (.int (numB (bs.take i) : Nat)), v2, v3] ∧ Same H H') ⟨none, none, rfl, Same.refl _⟩ (fun i σ H' _ ⟨_, _, _, s⟩ => Same.seq s hs) ?_ ?_⟩
      · rintro i x σ H1 H2 hi ⟨v2, v3, rfl, s1⟩ ⟨T', y, z, rfl, nT, rfl, hy, hz⟩
        rw [List.length_map] at hi
        have hbi : bs[i]? = some bs[i] := List.getElem?_eq_getElem hi
        simp only [List.getElem?_map, hbi, Option.map_some, Option.some.injEq] at hy hz
        subst hy hz
        refine ⟨T', _, rfl, SqT.of upd_same, rfl, ?_⟩
        walk_at "rd"
        exact ⟨⟨by omega, by omega, by split <;> decide⟩, _, _, ⟨join_next hbi, rfl, rfl⟩, s1.trans (Same.new nT)⟩
      · rintro σ H1 ⟨v2, v3, rfl, s1⟩
        rw [List.length_map, List.take_length]
        walk_at "rd"
        exact k _ s1
    · refine .inr ⟨hs, for_it walk_enumT (fun i σ H' => ∃ v2 v3 : Option V, σ = [some (.ref a), some (.int (numB (bs.take i) : Nat)), v2, v3] ∧ Same H H') ⟨none, none, rfl, Same.refl _⟩ (fun i σ H' _ ⟨_, _, _, s⟩ => Same.seqT s hs) ?_ ?_⟩
      · rintro i x σ H1 H2 hi ⟨v2, v3, rfl, s1⟩ ⟨T', y, z, rfl, nT, rfl, hy, hz⟩
        rw [List.length_map] at hi
        have hbi : bs[i]? = some bs[i] := List.getElem?_eq_getElem hi
        simp only [List.getElem?_map, hbi, Option.map_some, Option.some.injEq] at hy hz
        subst hy hz
        refine ⟨T', _, rfl, SqT.of upd_same, rfl, ?_⟩
        walk_at "rd"
        exact ⟨⟨by omega, by omega, by split <;> decide⟩, _, _, ⟨join_next hbi, rfl, rfl⟩, s1.trans (Same.new nT)⟩
      · rintro σ H1 ⟨v2, v3, rfl, s1⟩
        rw [List.length_map, List.take_length]
        walk_at "rd"
        exact k _ s1
end

--%% A5
/-! ## k52: the law's own -/
abbrev s_Fixed___init__ : Stmt := inClass (top 40) 0
theorem sc_Fixed___init__ : FnScope ["self", "value"] ["self", "value"] (defScope s_Fixed___init__) := ⟨rfl, rfl, rfl, by decide +kernel, rfl, by decide +kernel, by decide +kernel⟩
abbrev s__law_far_at : Stmt := top 43
theorem sc__law_far_at : FnScope ["_law_script", "_law_k"] ["_law_script", "_law_k"] (defScope s__law_far_at) := ⟨rfl, rfl, rfl, by decide +kernel, rfl, by decide +kernel, by decide +kernel⟩
abbrev s__law_whole : Stmt := top 45
theorem sc__law_whole : FnScope ["_law_found"] ["_law_found"] (defScope s__law_whole) := ⟨rfl, rfl, rfl, by decide +kernel, rfl, by decide +kernel, by decide +kernel⟩
abbrev s__law_refused : Stmt := top 47
theorem sc__law_refused : FnScope ["_law_ladder", "_law_number", "_law_e"] ["_law_ladder", "_law_number"] (defScope s__law_refused) := ⟨rfl, rfl, rfl, by decide +kernel, rfl, by decide +kernel, by decide +kernel⟩
abbrev s__law_row_right : Stmt := top 48
theorem sc__law_row_right : FnScope ["_law_ladder", "_law_many", "_law_number", "_law_row", "_law_truth", "_law_left"] ["_law_ladder", "_law_many", "_law_number"] (defScope s__law_row_right) := ⟨rfl, rfl, rfl, by decide +kernel, rfl, by decide +kernel, by decide +kernel⟩
abbrev s__law_by_turns : Stmt := top 49
theorem sc__law_by_turns : FnScope ["_law_script", "_law_made", "_law_ladders", "_law_many", "_law_turn", "_law_due"] ["_law_script"] (defScope s__law_by_turns) := ⟨rfl, rfl, rfl, by decide +kernel, rfl, by decide +kernel, by decide +kernel⟩
abbrev s_law : Stmt := top 50
theorem sc_law : FnScope ["_law_script", "_law_many", "_law_ladder", "_law_due", "_law_k", "_law_far", "_law_number", "_law_wrong", "_law_size", "_law_row", "_law_told"] ["_law_script"] (defScope s_law) := ⟨rfl, rfl, rfl, by decide +kernel, rfl, by decide +kernel, by decide +kernel⟩
theorem sl_listK {X : Cx} (K : PySem.W.Frag) (h : X.K = K) : SlR X (rSlL K) := h ▸ sl_list
structure TOwn (K : PySem.W.Frag) (mg : Str → Option Value) (cs : Cs) (cc : Addr) (xc : Xc) : Prop where
  steps : TSteps K mg cs cc xc
  cells : TCells K mg
  kind : TKind2 K mg xc
  c_Fixed : ClsAt K mg "Fixed" cs.cl.fx
  nv_fx : NoAttr K cs.cl.fx "value"
  i_fx : MethAt K cs.cl.fx "__init__" "Fixed.__init__" s_Fixed___init__ ["self", "value"]
  d_far : DefAt K mg "_law_far_at" s__law_far_at ["_law_script", "_law_k"]
  d_whole : DefAt K mg "_law_whole" s__law_whole ["_law_found"]
  d_refused : DefAt K mg "_law_refused" s__law_refused ["_law_ladder", "_law_number"]
  d_row_right : DefAt K mg "_law_row_right" s__law_row_right ["_law_ladder", "_law_many", "_law_number"]
  d_by_turns : DefAt K mg "_law_by_turns" s__law_by_turns ["_law_script"]
  z_len : mg "len" = none
  z_range : mg "range" = none
  z_tuple : mg "tuple" = none
  z_int : mg "int" = none
  z_bool : mg "bool" = none
  z_abs : mg "abs" = none
  z_isinstance : mg "isinstance" = none
structure Txt (K : PySem.W.Frag) (mg : Str → Option Value) (cs : Cs) (cc : Addr) (xc : Xc) : Prop where
  law : LawAt K mg s_law "_law_script"
  own : TOwn K mg cs cc xc
/-! ## rows of truths, held against each other -/
theorem shaped_of {d : PyData} (h : d.canLay0 = true) (hd : d.depth ≤ 64) : SeqAt.shaped d = true := by
  unfold SeqAt.shaped
  rw [h, decide_eq_true hd]
  rfl
theorem bools_dp {K : PySem.W.Frag} {H : Hp} : ∀ l : List Bool, DpAll K H (l.map V.bl) (l.map PyData.bool)
  | [] => .nil
  | n :: l => .cons (.bl n) (bools_dp l)
theorem bools_lay : ∀ {l : List Bool}, PyData.canLayAll0 (l.map PyData.bool) = true
  | [] => rfl
  | n :: l => by
    show (true && PyData.canLayAll0 (l.map PyData.bool)) = true
    rw [bools_lay]
    rfl
theorem bools_flat : ∀ l : List Bool, PyData.depthAll (l.map PyData.bool) = 0
  | [] => rfl
  | n :: l => by
    rw [List.map_cons, PyData.depthAll, bools_flat l]
    rfl
theorem bools_shaped {l : List Bool} : SeqAt.shaped (.tuple (l.map PyData.bool)) = true := shaped_of bools_lay (by rw [PyData.depth, bools_flat]; omega)
theorem bools_eqv {l : List Bool} : PyData.eqv (.tuple (l.map PyData.bool)) (.tuple (l.map PyData.bool)) = true := SeqAt.eqv_refl _ bools_lay

section
variable {P : Program} {w : World} {K : PySem.W.Frag} {mg : Str → Option Value} {base : Heap} {cs : Cs} {cc : Addr} {xc : Xc}
def spWholeB : Sp := fun vs H Q _ => ∃ i : Int, vs = [.int i] ∧ Q (.bl true) H
theorem ok_wholeB (T : TOwn K mg cs cc xc) : FnAt P w K mg base CX0 "_law_whole" 1 ["_law_found"] spWholeB := by
  refine fnAt_ok T.d_whole sc__law_whole (fun vs H Q E h => ?_) (fun f cdv A outer s H vs Q E hr h => ?_)
  · obtain ⟨i, rfl, _⟩ := h; rfl
  · obtain ⟨i, rfl, k⟩ := h
    refine ⟨_, (pss_one (ps_ret (pe_and (pe_callB call_isInt (by rfl) T.z_isinstance (by decide +kernel) (pa_cons (pv 0) (pa_cons (pe_bltn (v := .ty "int") (by rfl) T.z_int (by decide +kernel) rfl) pa_nil))) (pe_one (pe_not (pe_callB call_isBool (by rfl) T.z_isinstance (by decide +kernel) (pa_cons (pv 0) (pa_cons (pe_bltn (v := .ty "bool") (by rfl) T.z_bool (by decide +kernel) rfl) pa_nil)))))))), ?_⟩
    walk_at "rd"
    exact k
def spFarAt (K : PySem.W.Frag) : Sp := fun vs H Q _ => ∃ (a : Addr) (ns : List Int) (k : Int), vs = [.ref a, .int k] ∧ SqL K H a (ns.map V.int) ∧ 0 ≤ k ∧ ∀ c : Int, Q (.int c) H
theorem ok_far_at (T : TOwn K mg cs cc xc) : FnAt P w K mg base CX0 "_law_far_at" 1 ["_law_script", "_law_k"] (spFarAt K) := by
  refine fnAt_ok T.d_far sc__law_far_at (fun vs H Q E h => ?_) (fun f cdv A outer s H vs Q E hr h => ?_)
  · obtain ⟨a, ns, k, rfl, _⟩ := h; rfl
  · obtain ⟨a, ns, n, rfl, hs, h0, k⟩ := h
    refine ⟨_, (pss_cons (ps_if (pt_cmpR op_lt (pv 1) (pe_callB call_len_seq (by rfl) T.z_len PySem.boot_len (pa_cons (pv 0) pa_nil)) (nomark _)) (pss_one (ps_ret (pe_ix ix_list (pv 0) (pv 1) (fun _ _ => rfl)))) pss_nil)
        (pss_one (ps_ret pe_int))), ?_⟩
    walk_at "rd"
    refine ⟨_, .inl hs, ?_⟩
    rw [List.length_map]
    by_cases hl : n < (ns.length : Int)
    · rw [decide_eq_true hl]
      have hn : n.toNat < ns.length := by omega
      refine iteT ⟨a, _, _, .int ns[n.toNat], rfl, rfl, hs, ?_, k _⟩
      exact atI_int h0 (by rw [List.getElem?_map, List.getElem?_eq_getElem hn]; rfl)
    · rw [decide_eq_false hl]
      exact iteF (k _)
def spRefd (K : PySem.W.Frag) (cs : Cs) : Sp := fun vs H Q _ => ∃ (v : V) (l : Lad) (k : Int), vs = [v, .int k] ∧ IsL K cs H v l ∧ l.ins.length ≤ 60 ∧ ¬ (0 ≤ k ∧ k < ((2 ^ l.ins.length : Nat) : Int)) ∧ ∀ H', Same H H' → Q (.str "row") H'
theorem ok_refd (T : TOwn K mg cs cc xc) : FnAt P w K mg base CX0 "_law_refused" 3 ["_law_ladder", "_law_number"] (spRefd K cs) := by
  have GX_row_of := ok_row_of (P := P) (w := w) (base := base) T.steps
  have e_LadderError := T.kind.exs.e_err
  have G__law_kind : FnPAt P w K mg base CX0 "_law_kind" 1 _ (spKind2 xc) := ok_kind2 T.kind
  refine fnAt_ok T.d_refused sc__law_refused (fun vs H Q E h => ?_) (fun f cdv A outer s H vs Q E hr h => ?_)
  · obtain ⟨v, l, k, rfl, _⟩ := h; rfl
  · obtain ⟨v, l, n, rfl, p, hl, hn, k⟩ := h
    refine ⟨_, (pss_cons (ps_try_as (i := 2) rfl rfl sc__law_refused.nd rfl rfl ⟨rfl, by decide, .inl e_LadderError.gP⟩ takesN (fun W pn xe tk _ => (pss_one (ps_expr (pe_callT GX_row_of hr tk (pa_cons (pv 0) (pa_cons (pv 1) pa_nil)))))) (fun a oe cls d pn hz hf => (pss_one (ps_ret (pe_callP G__law_kind hz hf hr (pa_cons (pv 2) pa_nil))))))
        (pss_one (ps_ret pe_str))), ?_⟩
    walk_at "rd"
    exact ⟨_, rfl, _, rfl, v, l, n, rfl, p, hl, (fun m e hm => absurd ⟨by omega, by omega⟩ hn), fun _ => ⟨true, T.kind.exs.e_row.caught e_LadderError, fun _ a ha => ⟨_, rfl, .row, rfl, rfl, rfl, fun H2 s2 => k _ s2⟩, fun z => nomatch z⟩⟩
theorem rowT_at {n m i : Nat} {b : Bool} (h : (rowT n m)[i]? = some b) : b = bitI n i := by
  unfold rowT at h
  rw [List.getElem?_map] at h
  obtain ⟨j, hj, rfl⟩ := Option.map_eq_some_iff.mp h
  have := (List.getElem?_eq_some_iff.mp hj)
  obtain ⟨h1, h2⟩ := this
  rw [List.getElem_range] at h2
  rw [h2]
/-- the law's ladders -/
def ladN (ns : List Str) (j : Nat) : Lad := ⟨ns.take j, ["q"], [⟨.fixed true, ⟨.coil, "q", 1⟩⟩]⟩
def upL : List Str := ["a", "b", "c", "d", "e", "f"]
def dnL : List Str := ["f", "e", "d", "c", "b", "a"]
theorem upL_bad : ∀ j < 7, (ladN upL j).bad = none := by decide +kernel
theorem dnL_bad : ∀ j < 7, (ladN dnL j).bad = none := by decide +kernel
def spRowRight (K : PySem.W.Frag) (cs : Cs) : Sp := fun vs H Q _ => ∃ (v : V) (l : Lad) (n : Nat), vs = [v, .int l.ins.length, .int n] ∧ IsL K cs H v l ∧ l.ins.length ≤ 60 ∧ n < 2 ^ l.ins.length ∧ ∀ H', Same H H' → Q (.bl true) H'
theorem ok_row_right (T : TOwn K mg cs cc xc) : FnAt P w K mg base CX0 "_law_row_right" 3 ["_law_ladder", "_law_many", "_law_number"] (spRowRight K cs) := by
  have G_row_of := (ok_row_of (P := P) (w := w) (base := base) T.steps).calm
  have G_row_number := ok_row_number (P := P) (w := w) (base := base) T.steps
  refine fnAt_ok T.d_row_right sc__law_row_right (fun vs H Q E h => ?_) (fun f cdv A outer s H vs Q E hr h => ?_)
  · obtain ⟨v, l, n, rfl, _⟩ := h; rfl
  · obtain ⟨v, l, n, rfl, p, hl, hn, k⟩ := h
    refine ⟨_, (pss_cons (ps_set (i := 3) sc__law_row_right.nd rfl (by first | exact Or.inl rfl | exact Or.inr rfl) (pe_callF G_row_of hr pass0 (pa_cons (pv 0) (pa_cons (pv 2) pa_nil))))
        (pss_cons (ps_if (PW.pt (pw_or (pt_not (pt_val (pe_callB call_isTup (by rfl) T.z_isinstance (by decide +kernel) (pa_cons (pv 3) (pa_cons (pe_bltn (v := .ty "tuple") (by rfl) T.z_tuple (by decide +kernel) rfl) pa_nil))))) (pw_or (pt_cmpR op_ne (pe_callB call_len_seq (by rfl) T.z_len PySem.boot_len (pa_cons (pv 3) pa_nil)) (pv 1) (nomark _)) (pw_or1 (pt_cmpR (op_neE hr.units0) (pe_lc (own := [("_law_truth", 4)]) (g := gName 4) rfl sc__law_row_right.nd (pi_tup (pv 3)) (blkOk_by (own := [("_law_truth", 4)]) (N := ["_law_ladder", "_law_many", "_law_number", "_law_row", "_law_truth", "_law_left"]) (sc := defScope s__law_row_right) (by decide +kernel)) (fun _ _ _ _ _ => pg_name (i := 4) sc__law_row_right.nd rfl (Or.inl rfl)) (fun _ _ _ _ _ => (pts_one (pt_not (pt_val (pe_callB call_isBool (by rfl) T.z_isinstance (by decide +kernel) (pa_cons (pv 4) (pa_cons (pe_bltn (v := .ty "bool") (by rfl) T.z_bool (by decide +kernel) rfl) pa_nil))))))) (fun _ _ _ _ _ => pe_int)) (pe_lst pa_nil) (nomark _)))))) (pss_one (ps_ret pe_bl)) pss_nil)
        (pss_cons (ps_set (i := 5) sc__law_row_right.nd rfl (by first | exact Or.inl rfl | exact Or.inr rfl) (pv 2))
        (pss_cons (ps_for PassesOwn.never rfl (pi_tup (pv 3)) (pg_name (i := 4) sc__law_row_right.nd rfl (by first | exact Or.inl rfl | exact Or.inr rfl)) (pss_cons (ps_if (pt_cmpR op_ne (pe_op op_mod (pv 5) pe_int) (pe_callTy call_int1 (by rfl) T.z_int (show PySem.bootBuiltins "int" = some (.type "int") by decide +kernel) (pa_cons (pv 4) pa_nil)) (nomark _)) (pss_one (ps_ret pe_bl)) pss_nil)
          (pss_one (ps_set (i := 5) sc__law_row_right.nd rfl (by first | exact Or.inl rfl | exact Or.inr rfl) (pe_op op_fdiv (pv 5) pe_int)))))
        (pss_one (ps_ret (pe_and (pe_cmpR op_eq (pv 5) pe_int (nomark _)) (pe_one (pe_cmpR op_eq (pe_callF G_row_number hr pass0 (pa_cons (pv 3) pa_nil)) (pv 2) (nomark _)))))))))), ?_⟩
    walk_at "rd"
    refine ⟨v, l, n, rfl, p, hl, fun n' en hn' H1 t s1 ht => ?_, fun z => absurd ⟨by omega, by omega⟩ z⟩
    obtain rfl : n' = n := by omega
    refine ⟨t, _, rfl, ht, true, rfl, iteF ⟨t, rfl, _, .inr (SqT.of ht), ?_⟩⟩
    rw [List.length_map, rowT_len, decide_eq_true rfl]
    refine iteF ⟨_, rfl, t, rfl, ⟨_, SqT.of ht⟩, fun D nD => lc_tup (K := K) (a := t) (xs := (rowT n' l.ins.length).map V.bl) (fun i H' => Same H1 H' ∧ H' D = some (.lst [])) ⟨Same.new nD, upd_same⟩ (fun i H' _ q => SqT.of (q.1 _ _ ht)) ?_ ?_⟩
    · rintro i y H2 hy ⟨s2, hD⟩
      rw [List.getElem?_map] at hy
      obtain ⟨b, hb, rfl⟩ := Option.map_eq_some_iff.mp hy
      refine ⟨rfl, ?_⟩
      walk_at "rd"
      exact ⟨s2, hD⟩
    rintro H2 ⟨s2, hD⟩
    refine ⟨Nat.zero_le _, fun z nz => ⟨D, z, _, rfl, rfl, SqL.of (Same.new nz _ _ hD), SqL.of upd_same, _, rfl, ?_⟩⟩
    have s3 := s2.trans (Same.new (o := .lst []) nz)
    generalize upd H2 z (.lst []) = H3 at s3 ⊢
    have ht3 := s3 _ _ ht
    refine iteF ⟨_, rfl, t, rfl, ⟨_, SqT.of ht3⟩, for_tup (K := K) (a := t) (xs := (rowT n' l.ins.length).map V.bl) (fun i σ H' => ∃ v4 : Option V, σ = [some v, some (.int (l.ins.length : Nat)), some (.int (n' : Nat)), some (.ref t), v4, some (.int (n' / 2 ^ i : Nat))] ∧ Same H3 H') ⟨none, by simp, Same.refl _⟩ (fun i σ H' _ ⟨_, _, s⟩ => SqT.of (s _ _ ht3)) ?_ ?_⟩
    · rintro i y σ H4 hy ⟨v4, rfl, s4⟩
      rw [List.getElem?_map] at hy
      obtain ⟨b, hb, rfl⟩ := Option.map_eq_some_iff.mp hy
      walk_at "rd"
      obtain rfl := rowT_at hb
      have e1 : decide (((n' / 2 ^ i : Nat) : Int) % 2 = if bitI n' i = true then 1 else 0) = true := by
        rw [decide_eq_true_eq]
        unfold bitI
        rcases (show n' / 2 ^ i % 2 = 0 ∨ n' / 2 ^ i % 2 = 1 by omega) with e | e <;> rw [e]
        · show _ = (0 : Int); omega
        · show _ = (1 : Int); omega
      rw [e1]
      refine iteF ⟨_, ⟨rfl, ?_⟩, s4⟩
      rw [Nat.pow_succ, ← Nat.div_div_eq_div_mul]
      rfl
    · rintro σ H4 ⟨v4, rfl, s4⟩
      rw [List.length_map, rowT_len]
      walk_at "rd"
      rw [Nat.div_eq_of_lt hn, decide_eq_true (show ((0 : Nat) : Int) = 0 from rfl)]
      refine iteT ⟨t, rowT n' l.ins.length, rfl, .inr (SqT.of (s4 _ _ ht3)), by rw [rowT_len]; exact hl, fun H5 s5 => ⟨scal_ii, ?_⟩⟩
      rw [numB_row n' _ hn, decide_eq_true rfl]
      exact k _ (((s1.trans s3).trans s4).trans s5)
def spInitFx (cl : Cl) : Sp := fun vs H Q _ => ∃ (x dx : Addr) (b : Bool), vs = [.ref x, .bl b] ∧ H x = some (.ins cl.fx dx []) ∧ ∀ H' : Hp, H' x = some (.ins cl.fx dx [("value", .bl b)]) → But x H H' → Q .non H'
theorem ok_init_fx (T : TOwn K mg cs cc xc) : MakAt P w K mg base CX0 "Fixed" cs.cl.fx 1 ["self", "value"] (spInitFx cs.cl) := by
  refine makAt_of T.c_Fixed (methAt_ok T.c_Fixed.cl T.i_fx sc_Fixed___init__ (fun vs H Q E h => ?_) (fun f cdv A outer s H vs Q E hr h => ?_))
  · obtain ⟨x, dx, b, rfl, _⟩ := h; rfl
  · obtain ⟨x, dx, b, rfl, hx, q⟩ := h
    refine ⟨_, (pss_one (ps_fld (pv 0) (pv 1) rfl)), ?_⟩
    refine ⟨_, rfl, _, rfl, x, _, dx, [], rfl, hx, T.c_Fixed.cl, T.nv_fx, (by show 0 < 1000; decide), ?_⟩
    exact q _ upd_same But.upd
def rungQ : Rg := ⟨.fixed true, ⟨.coil, "q", 1⟩⟩
theorem mk_same {H H' : Hp} {x dx C : Addr} {fs : List (Str × V)} (nx : H x = none) (nd : H dx = none) (b : But x (upd (upd H dx (.own x)) x (.ins C dx fs)) H') : Same H H' := fun c o e => b c o (same_mkE nx nd c o e) (ne_of_none e nx)
theorem rep_uni {K : PySem.W.Frag} {H : Hp} {p : Addr} {v : V} {m : Nat} {R : VK} (hp : H p = some (.tup [v])) (hm : m ≤ 1000) (k : ∀ (H2 : Hp) (p2 : Addr), Same H H2 → H2 p2 = some (.tup (List.replicate m v)) → R (.ref p2) H2) : rRepTA K (.ref p) (.int (m : Int)) H R := by
  refine ⟨p, m, [v], rfl, rfl, SqT.of hp, by simp, by omega, by omega, by simp, fun e => ?_, fun e q nq => k _ q (Same.new nq) ?_⟩
  · obtain rfl : m = 1 := by omega
    exact k H p (Same.refl H) hp
  · rw [upd_same, Int.toNat_natCast]
    congr 2
    have : ∀ n : Nat, (List.replicate n [v]).flatten = List.replicate n v := fun n => by
      induction n with
      | zero => rfl
      | succ n ih => rw [List.replicate_succ, List.flatten_cons, ih, List.replicate_succ]; rfl
    exact this m
theorem numB_bit : ∀ {bs : List Bool} {i : Nat} {b : Bool}, bs[i]? = some b → numB bs / 2 ^ i % 2 = if b then 1 else 0
  | [], _, _, h => by simp at h
  | x :: l, 0, b, h => by
    simp at h
    subst h
    rw [numB, Nat.pow_zero, Nat.div_one]
    cases x <;> simp <;> omega
  | x :: l, i + 1, b, h => by
    have h' : l[i]? = some b := by simpa using h
    have := numB_bit h'
    rw [numB, Nat.pow_succ', ← Nat.div_div_eq_div_mul]
    have e : ((if x = true then 1 else 0) + 2 * numB l) / 2 = numB l := by split <;> omega
    rw [e]
    exact this
theorem row_ones : ∀ m < 7, rowT (2 ^ m - 1) m = List.replicate m true := by decide
theorem row_zeros : ∀ m < 7, rowT 0 m = List.replicate m false := by decide
def spTurns (K : PySem.W.Frag) : Sp := fun vs H Q _ => ∃ (a : Addr) (ns : List Int), vs = [.ref a] ∧ SqL K H a (ns.map V.int) ∧ ∀ H', Same H H' → Q (.bl true) H'
theorem ok_turns (T : TOwn K mg cs cc xc) : FnAt P w K mg base CX0 "_law_by_turns" 8 ["_law_script"] (spTurns K) := by
  have G_row_of := (ok_row_of (P := P) (w := w) (base := base) T.steps).calm
  have G_rows := ok_rows (P := P) (w := w) (base := base) T.steps
  have G__law_refused := ok_refd (P := P) (w := w) (base := base) T
  have G__law_cell_at := ok_cell_at (P := P) (w := w) (base := base) T.cells
  have G__law_mixed := ok_mixed (P := P) (w := w) (base := base) T.cells
  have M_Fixed := ok_init_fx (P := P) (w := w) (base := base) T
  have M_Coil := (init_en (P := P) (w := w) (base := base) T.steps.lad.enk.ends T.steps.lad.exs .coil T.steps.lad.enk.ends.c_Coil T.steps.lad.enk.ends.m_init_coil).calm
  have M_Rung := ok_init_rg (P := P) (w := w) (base := base) T.steps.lad
  have M_Ladder := (ok_init_ld (P := P) (w := w) (base := base) T.steps.lad).calm
  refine fnAt_ok T.d_by_turns sc__law_by_turns (fun vs H Q E h => ?_) (fun f cdv A outer s H vs Q E hr h => ?_)
  · obtain ⟨a, ns, rfl, _⟩ := h; rfl
  · obtain ⟨a, ns, rfl, hs, k⟩ := h
    refine ⟨_, (pss_cons (ps_set (i := 1) sc__law_by_turns.nd rfl (by first | exact Or.inl rfl | exact Or.inr rfl) (pe_lst (pa_cons (pe_makeF M_Rung hr pass0 (pa_cons (pe_makeF M_Fixed hr pass0 (pa_cons pe_bl pa_nil)) (pa_cons (pe_makeF M_Coil hr pass0 (pa_cons pe_str pa_nil)) pa_nil))) pa_nil)))
        (pss_cons (ps_setLc (i := 2) (own := [("_law_many", 3)]) (g := gName 3) (tt := tYes) rfl sc__law_by_turns.nd rfl rfl (sw_true rfl rfl rfl (by decide +kernel)) (pi_range1 rfl T.z_range (pa_cons pe_int pa_nil)) (blkOk_by (own := [("_law_many", 3)]) (N := ["_law_script", "_law_made", "_law_ladders", "_law_many", "_law_turn", "_law_due"]) (sc := defScope s__law_by_turns) (by decide +kernel)) (fun _ _ _ _ _ => pg_name (i := 3) sc__law_by_turns.nd rfl (Or.inl rfl)) (fun _ _ _ _ _ => pts_nil) (fun _ _ _ _ _ => (pe_makeF M_Ladder hr pass0 (pa_cons (pe_slice (sl_listK K rfl) (pe_lst (pa_cons pe_str (pa_cons pe_str (pa_cons pe_str (pa_cons pe_str (pa_cons pe_str (pa_cons pe_str pa_nil))))))) po_none (po_some (pv 3))) (pa_cons (pe_lst (pa_cons pe_str pa_nil)) (pa_cons (pv 1) pa_nil))))))
        (pss_cons (ps_for PassesOwn.never rfl (pi_range1 rfl T.z_range (pa_cons pe_int pa_nil)) (pg_name (i := 4) sc__law_by_turns.nd rfl (by first | exact Or.inl rfl | exact Or.inr rfl)) (pss_cons (ps_set (i := 3) sc__law_by_turns.nd rfl (by first | exact Or.inl rfl | exact Or.inr rfl) (pe_op op_mod (pe_op op_fdiv (pe_callF G__law_mixed hr pass0 (pa_cons (pe_callF G__law_cell_at hr pass0 (pa_cons (pv 0) (pa_cons pe_int pa_nil))) (pa_cons (pv 4) pa_nil))) pe_int) pe_int))
          (pss_cons (ps_set (i := 5) sc__law_by_turns.nd rfl (by first | exact Or.inl rfl | exact Or.inr rfl) (pe_op op_shl pe_int (pv 3)))
          (pss_cons (ps_if (PW.pt (pw_or (pt_cmpR op_ne (pe_callF G_rows hr pass0 (pa_cons (pe_ix ix_list (pv 2) (pv 3) (fun _ _ => rfl)) pa_nil)) (pv 5) (nomark _)) (pw_or1 (pt_cmpR (op_neD hr.units) (pe_callF G_row_of hr pass0 (pa_cons (pe_ix ix_list (pv 2) (pv 3) (fun _ _ => rfl)) (pa_cons (pe_op op_sub (pv 5) pe_int) pa_nil))) (pe_op op_repTA (pe_tup (pa_cons pe_bl pa_nil)) (pv 3)) (nomark _))))) (pss_one (ps_ret pe_bl)) pss_nil)
          (pss_one (ps_if (PW.pt (pw_or (pt_cmpR op_ne (pe_callF G__law_refused hr pass0 (pa_cons (pe_ix ix_list (pv 2) (pv 3) (fun _ _ => rfl)) (pa_cons (pv 5) pa_nil))) pe_str (nomark _)) (pw_or1 (pt_cmpR (op_neD hr.units) (pe_callF G_row_of hr pass0 (pa_cons (pe_ix ix_list (pv 2) (pv 3) (fun _ _ => rfl)) (pa_cons pe_int pa_nil))) (pe_op op_repTA (pe_tup (pa_cons pe_bl pa_nil)) (pv 3)) (nomark _))))) (pss_one (ps_ret pe_bl)) pss_nil))))))
        (pss_one (ps_ret pe_bl))))), ?_⟩
    walk_at "rd"
    refine fun x1 d1 nx1 nd1 _ => ⟨x1, d1, true, rfl, upd_same, fun H1 h1 b1 => ⟨rfl, fun x2 d2 nx2 nd2 _ => ⟨x2, d2, .coil, "q", rfl, upd_same, line_ge (by decide +kernel), fun _ H2 h2 b2 => ⟨rfl, fun x3 d3 nx3 nd3 _ => ⟨x3, d3, _, _, rfl, upd_same, fun H3 h3 b3 => ⟨rfl, ?_⟩⟩⟩, fun hn => absurd hn (by decide +kernel)⟩⟩⟩
    have s3 : Same H H3 := (mk_same nx1 nd1 b1).trans ((mk_same nx2 nd2 b2).trans (mk_same nx3 nd3 b3))
    have hR : IsR cs H3 (.ref x3) rungQ := ⟨x3, d3, .ref x1, .ref x2, rfl, h3, .fixed (mk_same nx3 nd3 b3 _ _ (mk_same nx2 nd2 b2 _ _ h1)), ⟨x2, d2, rfl, mk_same nx3 nd3 b3 _ _ h2⟩⟩
    refine ⟨line_ge (by simp), fun pr npr => ?_⟩
    have s4 := Same.new (o := .lst [.ref x3]) npr
    have hpr : upd H3 pr (.lst [.ref x3]) pr = some (.lst [.ref x3]) := upd_same
    have hR4 := hR.mono (Same.imm s4)
    generalize upd H3 pr (.lst [.ref x3]) = H4 at s4 hpr hR4 ⊢
    refine ⟨_, rfl, by decide, by decide, fun D nD => lc_range (lo := 0) (n := 7) (fun i H' => Same H4 H' ∧ ∃ vs, H' D = some (.lst vs) ∧ Two (IsL K cs H') vs ((List.range i).map (ladN dnL))) ⟨Same.new nD, [], upd_same, .nil⟩ ?_ ?_⟩
    · rintro i H5 hi ⟨s5, vs, hD, two⟩
      have hvl := two.length
      rw [List.length_map, List.length_range] at hvl
      refine ⟨rfl, ?_⟩
      unfold tYes
      walk_at "rd"
      refine ⟨line_ge (by simp), fun pl npl => ?_⟩
      rw [Int.zero_add]
      walk_at "rd"
      refine slL_to i rfl (SqL.of upd_same) fun pi npi => ⟨line_ge (by simp), fun po npo => ?_⟩
      have e1 : ([.str "f", .str "e", .str "d", .str "c", .str "b", .str "a"] : List V).take i = (ladN dnL i).ins.map V.str := by
        show _ = (dnL.take i).map V.str
        rw [List.map_take]
        rfl
      rw [e1] at npo ⊢
      have t1 := Same.new (o := .lst [.str "f", .str "e", .str "d", .str "c", .str "b", .str "a"]) npl
      have t2 := Same.new (o := .lst ((ladN dnL i).ins.map V.str)) npi
      have t3 := Same.new (o := .lst [.str "q"]) npo
      have hpi := t3 _ _ (upd_same (H := upd H5 pl (.lst [.str "f", .str "e", .str "d", .str "c", .str "b", .str "a"])) (a := pi) (o := .lst ((ladN dnL i).ins.map V.str)))
      have hpo := upd_same (H := upd (upd H5 pl (.lst [.str "f", .str "e", .str "d", .str "c", .str "b", .str "a"])) pi (.lst ((ladN dnL i).ins.map V.str))) (a := po) (o := .lst [.str "q"])
      have t13 := (t1.trans t2).trans t3
      generalize upd (upd (upd H5 pl (.lst [.str "f", .str "e", .str "d", .str "c", .str "b", .str "a"])) pi (.lst ((ladN dnL i).ins.map V.str))) po (.lst [.str "q"]) = H6 at t13 hpi hpo ⊢
      have s56 := s5.trans t13
      refine fun x dx nx nd _ => ⟨H6, x, dx, pi, po, pr, [.ref x3], ladN dnL i, rfl, upd_same, same_mkE nx nd, nx, .inl hpi, .inl hpo, .inl (s56 _ _ hpr), .cons (hR4.mono (Same.imm s56)) .nil, ?_, (by show 1 ≤ 1000; decide), (by show 1 ≤ 1000; decide), ?_, fun _ H7 s67 isl => ⟨rfl, ?_⟩, fun b hb => ?_⟩
      · show (dnL.take i).length ≤ 1000
        rw [List.length_take]
        have : dnL.length = 6 := rfl
        omega
      · intro n hn
        rcases List.mem_append.mp hn with hn | hn
        · have hn : n ∈ dnL := List.mem_of_mem_take hn
          have : ∀ n ∈ dnL, n.length ≤ 1000000 := by decide +kernel
          exact this n hn
        · rw [List.mem_singleton.mp hn]
          decide +kernel
      · have s57 := t13.trans s67
        refine ⟨vs, s57 _ _ hD, by rw [sizeLine_eq]; omega, Same.mut (s5.trans s57) nD, vs ++ [.ref x], upd_same, ?_⟩
        have im : Imm cs.has H7 (upd H7 D (.lst (vs ++ [.ref x]))) := Imm.mut (s57 _ _ hD) id
        rw [List.range_succ, List.map_append]
        exact ((two.mono fun _ _ z => z.mono (Same.imm s57)).mono fun _ _ z => z.mono im).app (.one (isl.mono im))
      · rw [dnL_bad i hi] at hb
        cases hb
    rintro H5 ⟨s5, vs, hD, two⟩
    have hvl := two.length
    rw [List.length_map, List.length_range] at hvl
    refine ⟨_, rfl, by decide, by decide, for_range (lo := 0) (n := 12) (fun i σ H' => ∃ v3 v4 v5 : Option V, σ = [some (.ref a), some (.ref pr), some (.ref D), v3, v4, v5] ∧ Same H5 H') ⟨none, none, none, rfl, Same.refl _⟩ ?_ ?_⟩
    · rintro i σ H6 hi ⟨v3, v4, v5, rfl, s6⟩
      walk_at "rd"
      refine ⟨a, ns, 5, rfl, Same.seq (((s3.trans s4).trans s5).trans s6) hs, by decide, fun c _ _ _ => ⟨_, _, rfl, _, rfl, ?_⟩⟩
      obtain ⟨m, em, hm⟩ : ∃ m : Nat, mixed c (0 + ↑i) / 3 % 7 = (m : Int) ∧ m < 7 := by
        have h1 := Int.emod_nonneg (mixed c (0 + ↑i) / 3) (show (7 : Int) ≠ 0 by decide)
        have h2 := Int.emod_lt_of_pos (mixed c (0 + ↑i) / 3) (show (0 : Int) < 7 by decide)
        exact ⟨(mixed c (0 + ↑i) / 3 % 7).toNat, by omega, by omega⟩
      rw [em]
      have eM : (1 : Int) * 2 ^ ((m : Nat) : Int).toNat = ((2 ^ m : Nat) : Int) := by
        rw [Int.toNat_natCast, Int.one_mul, Int.natCast_pow]
        rfl
      rw [eM]
      have hmv : m < vs.length := by omega
      have hvm : vs[m]? = some vs[m] := List.getElem?_eq_getElem hmv
      obtain ⟨l', hl', isl⟩ := two.at hvm
      rw [List.getElem?_map, List.getElem?_range hm] at hl'
      obtain rfl : ladN dnL m = l' := by injection hl'
      have hlm : (ladN dnL m).ins.length = m := by
        show (dnL.take m).length = m
        rw [List.length_take]
        have : dnL.length = 6 := rfl
        omega
      have hl60 : (ladN dnL m).ins.length ≤ 60 := by omega
      have hp1 : 1 ≤ 2 ^ m := Nat.one_le_two_pow
      have isl6 := isl.mono (Same.imm s6)
      have hD6 := s6 _ _ hD
      generalize vs[m] = vm at hvm isl isl6
      refine ⟨⟨by omega, by omega, by decide⟩, D, _, _, vm, rfl, rfl, SqL.of hD6, atI_nat hvm, vm, ladN dnL m, rfl, isl6, hl60, scal_ii, ?_⟩
      rw [hlm, decide_eq_true rfl]
      refine iteF ⟨D, _, _, vm, rfl, rfl, SqL.of hD6, atI_nat hvm, vm, ladN dnL m, _, rfl, isl6, hl60, fun n en hn H7 t s67 ht => ?_, fun z => absurd (by rw [hlm]; omega) z⟩
      obtain rfl : n = 2 ^ m - 1 := by omega
      rw [hlm, row_ones m hm] at ht
      refine ⟨line_ge (by simp), fun pt npt => rep_uni upd_same (by omega) fun H8 p2 s78 hp2 => ?_⟩
      have s7 := (Same.new (o := .tup [.bl true]) npt).trans s78
      rw [← List.map_replicate] at hp2
      refine ⟨_, _, .tup (SqT.of (s7 _ _ ht)) (bools_dp _), .tup (SqT.of hp2) (bools_dp _), bools_shaped, bools_shaped, _, rfl, ?_⟩
      rw [bools_eqv]
      have s68 := s67.trans s7
      refine iteF ⟨D, _, _, vm, rfl, rfl, SqL.of (s68 _ _ hD6), atI_nat hvm, vm, ladN dnL m, _, rfl, isl6.mono (Same.imm s68), hl60, (by rw [hlm]; omega), fun H9 s89 => ⟨scal_ss, ?_⟩⟩
      rw [decide_eq_true rfl]
      have s69 := s68.trans s89
      refine iteF ⟨D, _, _, vm, rfl, rfl, SqL.of (s69 _ _ hD6), atI_nat hvm, vm, ladN dnL m, _, rfl, isl6.mono (Same.imm s69), hl60, fun n en hn H10 t0 s910 ht0 => ?_, fun z => absurd (by rw [hlm]; omega) z⟩
      obtain rfl : n = 0 := by omega
      rw [hlm, row_zeros m hm] at ht0
      refine ⟨line_ge (by simp), fun pt2 npt2 => rep_uni upd_same (by omega) fun H11 p3 s1011 hp3 => ?_⟩
      have s11 := (Same.new (o := .tup [.bl false]) npt2).trans s1011
      rw [← List.map_replicate] at hp3
      refine ⟨_, _, .tup (SqT.of (s11 _ _ ht0)) (bools_dp _), .tup (SqT.of hp3) (bools_dp _), bools_shaped, bools_shaped, _, rfl, ?_⟩
      rw [bools_eqv]
      exact iteF ⟨_, _, _, ⟨rfl, rfl, rfl⟩, (s6.trans s69).trans (s910.trans s11)⟩
    · rintro σ H6 ⟨v3, v4, v5, rfl, s6⟩
      walk_at "rd"
      exact k _ (((s3.trans s4).trans s5).trans s6)
end
section
variable {P : Program} {w : World} {K : PySem.W.Frag} {mg : Str → Option Value} {cs : Cs} {cc : Addr} {xc : Xc}
theorem ok_law (T0 : Txt K mg cs cc xc) {base : Heap} {f : Addr} {fd : FuncData} (F : Fun K "law" "law" s_law f fd) : FnOk P w K mg base CX0 50 f fd ["_law_script"] (spLaw K) := by
  have T := T0.own
  have G_rows := ok_rows (P := P) (w := w) (base := base) T.steps
  have G_row_number := ok_row_number (P := P) (w := w) (base := base) T.steps
  have G__law_refused := ok_refd (P := P) (w := w) (base := base) T
  have G__law_row_right := ok_row_right (P := P) (w := w) (base := base) T
  have G__law_whole := ok_wholeB (P := P) (w := w) (base := base) T
  have G__law_far_at := ok_far_at (P := P) (w := w) (base := base) T
  have G__law_by_turns := ok_turns (P := P) (w := w) (base := base) T
  have G__law_cell_at := ok_cell_at (P := P) (w := w) (base := base) T.cells
  have G__law_mixed := ok_mixed (P := P) (w := w) (base := base) T.cells
  have M_Fixed := ok_init_fx (P := P) (w := w) (base := base) T
  have M_Coil := (init_en (P := P) (w := w) (base := base) T.steps.lad.enk.ends T.steps.lad.exs .coil T.steps.lad.enk.ends.c_Coil T.steps.lad.enk.ends.m_init_coil).calm
  have M_Rung := ok_init_rg (P := P) (w := w) (base := base) T.steps.lad
  have M_Ladder := (ok_init_ld (P := P) (w := w) (base := base) T.steps.lad).calm
  refine F.ok sc_law (fun vs H Q E h => ?_) (fun cdv A outer s H vs Q E hr h => ?_)
  · obtain ⟨a, ns, rfl, _⟩ := h; rfl
  · obtain ⟨a, script, rfl, hS, hlen, k⟩ := h
    refine ⟨_, (pss_cons (ps_if (pt_not (pt_val (pe_callF G__law_by_turns hr pass0 (pa_cons (pv 0) pa_nil)))) (pss_one (ps_ret pe_bl)) pss_nil)
        (pss_cons (ps_set (i := 1) sc_law.nd rfl (by first | exact Or.inl rfl | exact Or.inr rfl) (pe_op op_mod (pe_callF G__law_cell_at hr pass0 (pa_cons (pv 0) (pa_cons pe_int pa_nil))) pe_int))
        (pss_cons (ps_set (i := 2) sc_law.nd rfl (by first | exact Or.inl rfl | exact Or.inr rfl) (pe_makeF M_Ladder hr pass0 (pa_cons (pe_slice sl_list (pe_lst (pa_cons pe_str (pa_cons pe_str (pa_cons pe_str (pa_cons pe_str (pa_cons pe_str (pa_cons pe_str pa_nil))))))) po_none (po_some (pv 1))) (pa_cons (pe_lst (pa_cons pe_str pa_nil)) (pa_cons (pe_lst (pa_cons (pe_makeF M_Rung hr pass0 (pa_cons (pe_makeF M_Fixed hr pass0 (pa_cons pe_bl pa_nil)) (pa_cons (pe_makeF M_Coil hr pass0 (pa_cons pe_str pa_nil)) pa_nil))) pa_nil)) pa_nil)))))
        (pss_cons (ps_set (i := 3) sc_law.nd rfl (by first | exact Or.inl rfl | exact Or.inr rfl) pe_int)
        (pss_cons (ps_for PassesOwn.never rfl (pi_range1 rfl T.z_range (pa_cons (pv 1) pa_nil)) (pg_name (i := 4) sc_law.nd rfl (by first | exact Or.inl rfl | exact Or.inr rfl)) (pss_one (ps_set (i := 3) sc_law.nd rfl (by first | exact Or.inl rfl | exact Or.inr rfl) (pe_op op_mul pe_int (pv 3)))))
        (pss_cons (ps_set (i := 5) sc_law.nd rfl (by first | exact Or.inl rfl | exact Or.inr rfl) (pe_op op_mod (pe_callB call_abs (by rfl) T.z_abs (by decide +kernel) (pa_cons (pe_callF G__law_far_at hr pass0 (pa_cons (pv 0) (pa_cons pe_int pa_nil))) pa_nil)) (pe_op op_pow pe_int pe_int)))
        (pss_cons (ps_set (i := 6) sc_law.nd rfl (by first | exact Or.inl rfl | exact Or.inr rfl) (pe_op op_mod (pe_callF G__law_cell_at hr pass0 (pa_cons (pv 0) (pa_cons pe_int pa_nil))) (pv 3)))
        (pss_cons (ps_if (PW.pt (pw_or (pt_not (pt_val (pe_callF G__law_whole hr pass0 (pa_cons (pe_callF G_rows hr pass0 (pa_cons (pv 2) pa_nil)) pa_nil)))) (pw_or (pt_cmpR op_ne (pe_callF G_rows hr pass0 (pa_cons (pv 2) pa_nil)) (pv 3) (nomark _)) (pw_or1 (pt_not (pt_val (pe_callF G__law_row_right hr pass0 (pa_cons (pv 2) (pa_cons (pv 1) (pa_cons (pv 6) pa_nil)))))))))) (pss_one (ps_ret pe_bl)) pss_nil)
        (pss_cons (ps_for PassesOwn.never rfl (pi_list (pe_lst (pa_cons (pe_un un_neg pe_int) (pa_cons (pe_op op_sub (pe_un un_neg pe_int) (pv 5)) (pa_cons (pv 3) (pa_cons (pe_op op_add (pv 3) (pv 5)) pa_nil)))))) (pg_name (i := 7) sc_law.nd rfl (by first | exact Or.inl rfl | exact Or.inr rfl)) (pss_one (ps_if (pt_cmpR op_ne (pe_callF G__law_refused hr pass0 (pa_cons (pv 2) (pa_cons (pv 7) pa_nil))) pe_str (nomark _)) (pss_one (ps_ret pe_bl)) pss_nil)))
        (pss_cons (ps_set (i := 8) sc_law.nd rfl (by first | exact Or.inl rfl | exact Or.inr rfl) (pe_op op_mod (pe_callF G__law_cell_at hr pass0 (pa_cons (pv 0) (pa_cons pe_int pa_nil))) pe_int))
        (pss_cons (ps_setLc (i := 9) (own := [("_law_k", 4)]) (g := gName 4) (tt := tYes) rfl sc_law.nd rfl rfl (sw_true rfl rfl rfl (by decide +kernel)) (pi_range1 rfl T.z_range (pa_cons (pv 8) pa_nil)) (blkOk_by (own := [("_law_k", 4)]) (N := ["_law_script", "_law_many", "_law_ladder", "_law_due", "_law_k", "_law_far", "_law_number", "_law_wrong", "_law_size", "_law_row", "_law_told"]) (sc := defScope s_law) (by decide +kernel)) (fun _ _ _ _ _ => pg_name (i := 4) sc_law.nd rfl (Or.inl rfl)) (fun _ _ _ _ _ => pts_nil) (fun _ _ _ _ _ => (pe_cmpR op_eq (pe_op op_mod (pe_callF G__law_mixed hr pass0 (pa_cons (pe_callF G__law_cell_at hr pass0 (pa_cons (pv 0) (pa_cons pe_int pa_nil))) (pa_cons (pv 4) pa_nil))) pe_int) pe_int (nomark _))))
        (pss_cons (ps_set (i := 10) sc_law.nd rfl (by first | exact Or.inl rfl | exact Or.inr rfl) (pe_callF G_row_number hr pass0 (pa_cons (pe_ix ix_list (pe_lst (pa_cons (pv 9) (pa_cons (pe_callTy call_tuple_of (by rfl) T.z_tuple (show PySem.bootBuiltins "tuple" = some (.type "tuple") by decide +kernel) (pa_cons (pv 9) pa_nil)) pa_nil))) (pe_op op_mod (pe_op op_fdiv (pe_callF G__law_cell_at hr pass0 (pa_cons (pv 0) (pa_cons pe_int pa_nil))) pe_int) pe_int) (fun _ _ => rfl)) pa_nil)))
        (pss_cons (ps_for PassesOwn.never rfl (pi_range1 rfl T.z_range (pa_cons (pv 8) pa_nil)) (pg_name (i := 4) sc_law.nd rfl (by first | exact Or.inl rfl | exact Or.inr rfl)) (pss_cons (ps_set (i := 5) sc_law.nd rfl (by first | exact Or.inl rfl | exact Or.inr rfl) (pv 10))
          (pss_cons (ps_set (i := 10) sc_law.nd rfl (by first | exact Or.inl rfl | exact Or.inr rfl) (pe_op op_fdiv (pv 10) pe_int))
          (pss_one (ps_if (PW.pt (pw_or (pt_not (pt_val (pe_callF G__law_whole hr pass0 (pa_cons (pv 5) pa_nil)))) (pw_or1 (pt_cmpR op_ne (pe_op op_mod (pv 5) pe_int) (pe_callTy call_int1 (by rfl) T.z_int (show PySem.bootBuiltins "int" = some (.type "int") by decide +kernel) (pa_cons (pe_ix ix_list (pv 9) (pv 4) (fun _ _ => rfl)) pa_nil)) (nomark _))))) (pss_one (ps_ret pe_bl)) pss_nil)))))
        (pss_one (ps_ret (pe_and (pe_cmpR op_eq (pv 10) pe_int (nomark _)) (pe_one (pe_callF G__law_row_right hr pass0 (pa_cons (pv 2) (pa_cons (pv 1) (pa_cons (pe_op op_sub (pe_op op_sub (pv 3) pe_int) (pv 6)) pa_nil))))))))))))))))))))), ?_⟩
    walk_at "rd"
    refine ⟨a, script, rfl, hS, fun H1 s1 => ⟨true, rfl, iteF ?_⟩⟩
    refine ⟨a, script, 0, rfl, Same.seq s1 hS, by decide, fun c0 _ _ _ => ⟨_, rfl, ?_⟩⟩
    obtain ⟨m, em, hm⟩ : ∃ m : Nat, c0 % 7 = (m : Int) ∧ m < 7 := by
      have h1 := Int.emod_nonneg c0 (show (7 : Int) ≠ 0 by decide)
      have h2 := Int.emod_lt_of_pos c0 (show (0 : Int) < 7 by decide)
      exact ⟨(c0 % 7).toNat, by omega, by omega⟩
    rw [em]
    refine ⟨line_ge (by simp), fun pl npl => ?_⟩
    walk_at "rd"
    refine slL_to m rfl (SqL.of upd_same) fun pi npi => ⟨line_ge (by simp), fun po npo => ?_⟩
    have e1 : ([.str "a", .str "b", .str "c", .str "d", .str "e", .str "f"] : List V).take m = (ladN upL m).ins.map V.str := by
      show _ = (upL.take m).map V.str
      rw [List.map_take]
      rfl
    rw [e1] at npo ⊢
    have t1 := Same.new (o := .lst [.str "a", .str "b", .str "c", .str "d", .str "e", .str "f"]) npl
    have t2 := Same.new (o := .lst ((ladN upL m).ins.map V.str)) npi
    have t3 := Same.new (o := .lst [.str "q"]) npo
    have hpi := t3 _ _ (upd_same (H := upd H1 pl (.lst [.str "a", .str "b", .str "c", .str "d", .str "e", .str "f"])) (a := pi) (o := .lst ((ladN upL m).ins.map V.str)))
    have hpo := upd_same (H := upd (upd H1 pl (.lst [.str "a", .str "b", .str "c", .str "d", .str "e", .str "f"])) pi (.lst ((ladN upL m).ins.map V.str))) (a := po) (o := .lst [.str "q"])
    have t13 := (t1.trans t2).trans t3
    generalize upd (upd (upd H1 pl (.lst [.str "a", .str "b", .str "c", .str "d", .str "e", .str "f"])) pi (.lst ((ladN upL m).ins.map V.str))) po (.lst [.str "q"]) = Ha at t13 hpi hpo ⊢
    refine fun x1 d1 nx1 nd1 _ => ⟨x1, d1, true, rfl, upd_same, fun Hb h1 b1 => ⟨rfl, fun x2 d2 nx2 nd2 _ => ⟨x2, d2, .coil, "q", rfl, upd_same, line_ge (by decide +kernel), fun _ Hc h2 b2 => ⟨rfl, fun x3 d3 nx3 nd3 _ => ⟨x3, d3, _, _, rfl, upd_same, fun Hd h3 b3 => ⟨rfl, ?_⟩⟩⟩, fun hn => absurd hn (by decide +kernel)⟩⟩⟩
    have sad : Same Ha Hd := (mk_same nx1 nd1 b1).trans ((mk_same nx2 nd2 b2).trans (mk_same nx3 nd3 b3))
    have hR : IsR cs Hd (.ref x3) rungQ := ⟨x3, d3, .ref x1, .ref x2, rfl, h3, .fixed (mk_same nx3 nd3 b3 _ _ (mk_same nx2 nd2 b2 _ _ h1)), ⟨x2, d2, rfl, mk_same nx3 nd3 b3 _ _ h2⟩⟩
    refine ⟨line_ge (by simp), fun pr npr => ?_⟩
    have sde := Same.new (o := .lst [.ref x3]) npr
    have hpr : upd Hd pr (.lst [.ref x3]) pr = some (.lst [.ref x3]) := upd_same
    have hRe := hR.mono (Same.imm sde)
    have hpie := sde _ _ (sad _ _ hpi)
    have hpoe := sde _ _ (sad _ _ hpo)
    have s1e := (s1.trans t13).trans (sad.trans sde)
    intro xl dl nxl ndl _
    generalize upd Hd pr (.lst [.ref x3]) = He at *
    refine ⟨He, xl, dl, pi, po, pr, [.ref x3], ladN upL m, rfl, upd_same, same_mkE nxl ndl, nxl, .inl hpie, .inl hpoe, .inl hpr, .cons hRe .nil, ?_, (by show 1 ≤ 1000; decide), (by show 1 ≤ 1000; decide), ?_, fun _ H2 s2 isl => ⟨rfl, ?_⟩, fun b hb => ?_⟩
    · show (upL.take m).length ≤ 1000
      rw [List.length_take]
      have : upL.length = 6 := rfl
      omega
    · intro n hn
      rcases List.mem_append.mp hn with hn | hn
      · have hn : n ∈ upL := List.mem_of_mem_take hn
        have : ∀ n ∈ upL, n.length ≤ 1000000 := by decide +kernel
        exact this n hn
      · rw [List.mem_singleton.mp hn]
        decide +kernel
    rotate_left
    · rw [upL_bad m hm] at hb
      cases hb
    have s12 := s1e.trans s2
    have hS2 := Same.seq s12 hS
    have hlm : (ladN upL m).ins.length = m := by
      show (upL.take m).length = m
      rw [List.length_take]
      have : upL.length = 6 := rfl
      omega
    have hl60 : (ladN upL m).ins.length ≤ 60 := by omega
    have hp1 : 1 ≤ 2 ^ m := Nat.one_le_two_pow
    refine ⟨_, rfl, _, rfl, by omega, by omega, for_range (lo := 0) (n := m) (fun i σ H' => ∃ v4 : Option V, σ = [some (.ref a), some (.int (m : Nat)), some (.ref xl), some (.int (2 ^ i : Nat)), v4, none, none, none, none, none, none] ∧ H' = H2) ⟨none, rfl, rfl⟩ ?_ ?_⟩
    · rintro i σ H' hi ⟨v4, rfl, rfl⟩
      walk_at "rd"
      exact ⟨by rw [Nat.pow_succ, Int.natCast_mul]; omega, _, rfl⟩
    rintro σ H' ⟨v4, rfl, rfl⟩
    walk_at "rd"
    refine ⟨a, script, 1, rfl, hS2, by decide, fun c1 => ⟨_, rfl, ⟨by decide, by decide, by decide⟩, by decide, ?_⟩⟩
    have hF : 0 ≤ (if c1 < 0 then -c1 else c1) % 10 ^ Int.toNat 30 := Int.emod_nonneg _ (by decide)
    generalize (if c1 < 0 then -c1 else c1) % 10 ^ Int.toNat 30 = F at hF ⊢
    refine ⟨a, script, 2, rfl, hS2, by decide, fun c2 _ _ _ => ⟨_, rfl, by omega, ?_⟩⟩
    obtain ⟨n, en, hn⟩ : ∃ n : Nat, c2 % ((2 ^ m : Nat) : Int) = (n : Int) ∧ n < 2 ^ m := by
      have h1 := Int.emod_nonneg c2 (show ((2 ^ m : Nat) : Int) ≠ 0 by omega)
      have h2 := Int.emod_lt_of_pos c2 (show (0 : Int) < ((2 ^ m : Nat) : Int) by omega)
      exact ⟨(c2 % ((2 ^ m : Nat) : Int)).toNat, by omega, by omega⟩
    rw [en]
    refine ⟨.ref xl, ladN upL m, rfl, isl, hl60, _, rfl, true, rfl, iteF ⟨.ref xl, ladN upL m, rfl, isl, hl60, scal_ii, ?_⟩⟩
    rw [hlm, decide_eq_true rfl]
    refine iteF ⟨.ref xl, ladN upL m, n, by rw [hlm], isl, hl60, by rw [hlm]; exact hn, fun H3 s3 => ⟨true, rfl, iteF ?_⟩⟩
    unfold iList tUn
    walk_at "rd"
    refine ⟨1, rfl, 1, rfl, _, rfl, _, rfl, _, rfl, _, rfl, _, rfl, _, rfl, _, rfl, _, rfl, line_ge (by simp), fun pw npw => ?_⟩
    have s34 := Same.new (o := .lst [.int (-1), .int (-1 - F), .int ((2 ^ m : Nat) : Int), .int (((2 ^ m : Nat) : Int) + F)]) npw
    have hpw : upd H3 pw (.lst [.int (-1), .int (-1 - F), .int ((2 ^ m : Nat) : Int), .int (((2 ^ m : Nat) : Int) + F)]) pw = some (.lst [.int (-1), .int (-1 - F), .int ((2 ^ m : Nat) : Int), .int (((2 ^ m : Nat) : Int) + F)]) := upd_same
    have isl4 := (isl.mono (Same.imm s3)).mono (Same.imm s34)
    refine ⟨⟨_, SqL.of hpw⟩, for_list (K := K) (a := pw) (xs := [.int (-1), .int (-1 - F), .int ((2 ^ m : Nat) : Int), .int (((2 ^ m : Nat) : Int) + F)]) (fun i σ H' => ∃ v7 : Option V, σ = [some (.ref a), some (.int (m : Nat)), some (.ref xl), some (.int (2 ^ m : Nat)), v4, some (.int F), some (.int (n : Nat)), v7, none, none, none] ∧ Same (upd H3 pw (.lst [.int (-1), .int (-1 - F), .int ((2 ^ m : Nat) : Int), .int (((2 ^ m : Nat) : Int) + F)])) H') ⟨none, rfl, Same.refl _⟩ (fun i σ H' _ ⟨_, _, s⟩ => SqL.of (s _ _ hpw)) ?_ ?_⟩
    · rintro i y σ H4 hy ⟨v7, rfl, s4⟩
      have hm' := List.mem_of_getElem? hy
      obtain ⟨z, rfl, hz⟩ : ∃ z : Int, y = .int z ∧ ¬ (0 ≤ z ∧ z < ((2 ^ m : Nat) : Int)) := by
        simp only [List.mem_cons, List.not_mem_nil, or_false] at hm'
        rcases hm' with rfl | rfl | rfl | rfl
        · exact ⟨_, rfl, by omega⟩
        · exact ⟨_, rfl, by omega⟩
        · exact ⟨_, rfl, by omega⟩
        · exact ⟨_, rfl, by omega⟩
      walk_at "rd"
      refine ⟨.ref xl, ladN upL m, z, rfl, isl4.mono (Same.imm s4), hl60, by rw [hlm]; exact hz, fun H5 s5 => ⟨scal_ss, ?_⟩⟩
      rw [decide_eq_true rfl]
      exact iteF (s4.trans s5)
    rintro σ H4 ⟨v7, rfl, s4⟩
    have s24 := (s3.trans s34).trans s4
    have hS4 := Same.seq s24 hS2
    have isl4 := isl4.mono (Same.imm s4)
    walk_at "rd"
    refine ⟨a, script, 3, rfl, hS4, by decide, fun c3 _ _ ec3 => ⟨_, rfl, ?_⟩⟩
    obtain ⟨z, ez, hz⟩ : ∃ z : Nat, c3 % 31 = (z : Int) ∧ z < 31 := by
      have h1 := Int.emod_nonneg c3 (show (31 : Int) ≠ 0 by decide)
      have h2 := Int.emod_lt_of_pos c3 (show (0 : Int) < 31 by decide)
      exact ⟨(c3 % 31).toNat, by omega, by omega⟩
    rw [ez]
    let fb : Nat → Bool := fun i => decide (mixed (mixed (cellAt script 4) (300 + 4)) (i : Nat) % 2 = 1)
    refine ⟨_, rfl, _, rfl, by omega, by omega, fun D nD => lc_range (lo := 0) (n := z) (fun i H' => Same H4 H' ∧ H' D = some (.lst (((List.range i).map fb).map V.bl))) ⟨Same.new nD, upd_same⟩ ?_ ?_⟩
    · rintro i H5 hi ⟨s5, hD⟩
      refine ⟨rfl, ?_⟩
      unfold tYes
      walk_at "rd"
      refine ⟨a, script, 4, rfl, Same.seq s5 hS4, by decide, fun c _ _ ec => ⟨_, _, rfl, _, rfl, _, hD, by rw [List.length_map, List.length_map, List.length_range, sizeLine_eq]; omega, Same.mut s5 nD, ?_⟩⟩
      rw [upd_same, ec, Int.zero_add, List.range_succ, List.map_append, List.map_append]
      rfl
    rintro H5 ⟨s5, hD⟩
    have hbl : ((List.range z).map fb).length = z := by rw [List.length_map, List.length_range]
    generalize (List.range z).map fb = bs at hD hbl
    refine ⟨D, rfl, _, .inl ⟨SqL.of hD, fun t nt => ⟨line_ge (by simp), fun pp npp => ?_⟩⟩⟩
    have t1' := Same.new (o := .tup (bs.map V.bl)) nt
    have t2' := Same.new (o := .lst [.ref D, .ref t]) npp
    have ht6 := t2' _ _ (upd_same (H := H5) (a := t) (o := .tup (bs.map V.bl)))
    have hpp : upd (upd H5 t (.tup (bs.map V.bl))) pp (.lst [.ref D, .ref t]) pp = some (.lst [.ref D, .ref t]) := upd_same
    have s56 := t1'.trans t2'
    generalize upd (upd H5 t (.tup (bs.map V.bl))) pp (.lst [.ref D, .ref t]) = H6 at s56 ht6 hpp ⊢
    have hD6 := s56 _ _ hD
    refine ⟨a, script, 3, rfl, Same.seq (s5.trans s56) hS4, by decide, fun c5 _ _ _ => ⟨_, rfl, ?_⟩⟩
    obtain ⟨q, hq1, hq2⟩ : ∃ q, atI ([.ref D, .ref t] : List V) (c5 / 31 % 2) = some (.ref q) ∧ (SqL K H6 q (bs.map V.bl) ∨ SqT K H6 q (bs.map V.bl)) := by
      have h1 := Int.emod_nonneg (c5 / 31) (show (2 : Int) ≠ 0 by decide)
      have h2 := Int.emod_lt_of_pos (c5 / 31) (show (0 : Int) < 2 by decide)
      rcases (show c5 / 31 % 2 = 0 ∨ c5 / 31 % 2 = 1 by omega) with e | e <;> rw [e]
      · exact ⟨D, rfl, .inl (SqL.of hD6)⟩
      · exact ⟨t, rfl, .inr (SqT.of ht6)⟩
    refine ⟨pp, _, _, .ref q, rfl, rfl, SqL.of hpp, hq1, q, bs, rfl, hq2, by omega, fun H7 s67 => ?_⟩
    have hD7 := s67 _ _ hD6
    have s47 := (s5.trans s56).trans s67
    refine ⟨_, rfl, _, rfl, by omega, by omega, for_range (lo := 0) (n := z) (fun i σ H' => ∃ v4 v5 : Option V, σ = [some (.ref a), some (.int (m : Nat)), some (.ref xl), some (.int (2 ^ m : Nat)), v4, v5, some (.int (n : Nat)), v7, some (.int (z : Nat)), some (.ref D), some (.int (numB bs / 2 ^ i : Nat))] ∧ H' = H7) ⟨_, _, by rw [Nat.pow_zero, Nat.div_one], rfl⟩ ?_ ?_⟩
    · rintro i σ H' hi ⟨v4, v5, rfl, rfl⟩
      walk_at "rd"
      rw [Int.zero_add]
      have hbi : bs[i]? = some bs[i] := List.getElem?_eq_getElem (by omega)
      refine ⟨_, rfl, true, rfl, iteF ⟨D, _, _, .bl bs[i], rfl, rfl, SqL.of hD7, atI_nat (by rw [List.getElem?_map, hbi]; rfl), .inr ⟨_, rfl, ?_⟩⟩⟩
      have e1 : decide (((numB bs / 2 ^ i : Nat) : Int) % 2 = if bs[i] = true then 1 else 0) = true := by
        rw [decide_eq_true_eq]
        have := numB_bit hbi
        generalize bs[i] = b at this
        cases b
        · have this : numB bs / 2 ^ i % 2 = 0 := this
          show _ = (0 : Int)
          omega
        · have this : numB bs / 2 ^ i % 2 = 1 := this
          show _ = (1 : Int)
          omega
      rw [e1]
      refine iteF ⟨_, _, ⟨rfl, rfl, ?_⟩, rfl⟩
      rw [Nat.pow_succ, ← Nat.div_div_eq_div_mul]
      rfl
    · rintro σ H' ⟨v4, v5, rfl, rfl⟩
      walk_at "rd"
      have hlt := numB_lt bs
      rw [hbl] at hlt
      rw [Nat.div_eq_of_lt hlt, decide_eq_true (show ((0 : Nat) : Int) = 0 from rfl)]
      refine iteT ⟨.ref xl, ladN upL m, 2 ^ m - 1 - n, ?_, isl4.mono (Same.imm s47), hl60, by rw [hlm]; omega, fun H8 s8 => k _⟩
      rw [hlm, show (((2 ^ m : Nat) : Int) - 1 - (n : Int)) = ((2 ^ m - 1 - n : Nat) : Int) by omega]
end

--%% A6
end My
end
section
open PySem PySem.Spec L2 Ru
namespace My
def a_cs (K : PySem.W.Frag) : Cs := ⟨⟨(He.ga K "Fixed"), (He.ga K "Fixed"), (He.ga K "Fixed"), (He.ga K "Fixed"), (He.ga K "Fixed")⟩, ⟨(He.ga K "Coil"), (He.ga K "Unlatch"), (He.ga K "End")⟩, (He.ga K "Rung"), (He.ga K "Ladder")⟩
def a_cc (K : PySem.W.Frag) : Addr := (He.ga K "Counting")
def a_xc (K : PySem.W.Frag) : Xc := ⟨(He.ga K "LadderError"), (He.ga K "NoName"), (He.ga K "NoPart"), (He.ga K "NoEnd"), (He.ga K "NoLadder"), (He.ga K "NoText"), (He.ga K "NoRow"), (He.ga K "NoSheet"), (He.ga K "NoState"), (He.ga K "NoMatch"), (He.ga K "TooMany")⟩
theorem f_TNames {K : PySem.W.Frag} {h : Heap} {mg : Str → Option Value} (X : K.In h) (G : h.Ns mainGlobals mg) (c : Hd.Says Hh.facts Hh.defs K) : TNames K mg :=
  ⟨(Hd.def_of X G (c.at_ 1 rfl) (c.def_ 1 rfl) (fun _ _ _ _ _ _ us hl => match us, hl with | [_], _ => rfl)),
   (Hd.def_of X G (c.at_ 2 rfl) (c.def_ 2 rfl) (fun _ _ _ _ _ _ us hl => match us, hl with | [_], _ => rfl)),
   (Hd.con_of X G (c.at_ 3 rfl)),
   (Hd.con_of X G (c.at_ 4 rfl)),
   (Hd.tup_of X G (c.at_ 5 rfl)),
   (Hd.no_of X G (c.at_ 6 rfl))⟩
theorem f_TEnds {K : PySem.W.Frag} {h : Heap} {mg : Str → Option Value} (X : K.In h) (G : h.Ns mainGlobals mg) (c : Hd.Says Hh.facts Hh.defs K) : TEnds K mg (a_cs K).ce :=
  ⟨(f_TNames X G c),
   (Hd.cls_of X G (c.at_ 7 rfl)),
   (Hd.cls_of X G (c.at_ 8 rfl)),
   (Hd.na_of (c.at_ 9 rfl)),
   (Hd.na_of (c.at_ 10 rfl)),
   (Hd.met_of (c.at_ 11 rfl) (c.def_ 3 rfl) (fun _ _ _ _ _ _ us hl => match us, hl with | [_, _], _ => rfl)),
   (Hd.no_of X G (c.at_ 12 rfl))⟩
theorem f_TEnK {K : PySem.W.Frag} {h : Heap} {mg : Str → Option Value} (X : K.In h) (G : h.Ns mainGlobals mg) (c : Hd.Says Hh.facts Hh.defs K) : TEnK K mg (a_cs K).ce :=
  ⟨(f_TEnds X G c),
   (Hd.one_of (c.at_ 13 rfl)),
   (Hd.one_of (c.at_ 14 rfl))⟩
theorem f_TExs {K : PySem.W.Frag} {h : Heap} {mg : Str → Option Value} (X : K.In h) (G : h.Ns mainGlobals mg) (c : Hd.Says Hh.facts Hh.defs K) : TExs K mg (a_xc K) :=
  ⟨(Hd.err_of X G (c.at_ 15 rfl)),
   (Hd.exc_of X G (c.at_ 16 rfl)),
   (Hd.exc_of X G (c.at_ 17 rfl)),
   (Hd.exc_of X G (c.at_ 18 rfl)),
   (Hd.exc_of X G (c.at_ 19 rfl)),
   (Hd.exc_of X G (c.at_ 20 rfl)),
   (Hd.exc_of X G (c.at_ 21 rfl)),
   (Hd.exc_of X G (c.at_ 22 rfl)),
   (Hd.exc_of X G (c.at_ 23 rfl)),
   (Hd.exc_of X G (c.at_ 24 rfl)),
   (Hd.exc_of X G (c.at_ 25 rfl)),
   (of_decide_eq_true (c.at_ 26 rfl))⟩
theorem f_TLad {K : PySem.W.Frag} {h : Heap} {mg : Str → Option Value} (X : K.In h) (G : h.Ns mainGlobals mg) (c : Hd.Says Hh.facts Hh.defs K) : TLad K mg (a_cs K) (a_cc K) (a_xc K) :=
  ⟨(f_TEnK X G c),
   (f_TExs X G c),
   (Hd.cls_of X G (c.at_ 27 rfl)),
   (Hd.cls_of X G (c.at_ 28 rfl)),
   (Hd.cls_of X G (c.at_ 29 rfl)),
   (Hd.one_of (c.at_ 30 rfl)),
   (Hd.one_of (c.at_ 31 rfl)),
   (Hd.na_of (c.at_ 32 rfl)),
   (Hd.na_of (c.at_ 33 rfl)),
   (Hd.na_of (c.at_ 34 rfl)),
   (Hd.na_of (c.at_ 35 rfl)),
   (Hd.na_of (c.at_ 36 rfl)),
   (Hd.def_of X G (c.at_ 37 rfl) (c.def_ 4 rfl) (fun _ _ _ _ _ _ us hl => match us, hl with | [_, _, _], _ => rfl)),
   (Hd.def_of X G (c.at_ 38 rfl) (c.def_ 5 rfl) (fun _ _ _ _ _ _ us hl => match us, hl with | [_], _ => rfl)),
   (Hd.def_of X G (c.at_ 39 rfl) (c.def_ 6 rfl) (fun _ _ _ _ _ _ us hl => match us, hl with | [_], _ => rfl)),
   (Hd.met_of (c.at_ 40 rfl) (c.def_ 7 rfl) (fun _ _ _ _ _ _ us hl => match us, hl with | [_, _, _], _ => rfl)),
   (Hd.met_of (c.at_ 41 rfl) (c.def_ 8 rfl) (fun _ _ _ _ _ _ us hl => match us, hl with | [_, _, _, _], _ => rfl)),
   (Hd.met_of (c.at_ 42 rfl) (c.def_ 9 rfl) (fun _ _ _ _ _ _ us hl => match us, hl with | [_], _ => rfl)),
   (Hd.no_of X G (c.at_ 6 rfl)),
   (Hd.no_of X G (c.at_ 43 rfl)),
   (Hd.no_of X G (c.at_ 44 rfl)),
   (Hd.no_of X G (c.at_ 45 rfl)),
   (Hd.no_of X G (c.at_ 12 rfl)),
   (Hd.con_of X G (c.at_ 46 rfl)),
   (Hd.con_of X G (c.at_ 47 rfl)),
   (Hd.con_of X G (c.at_ 48 rfl))⟩
theorem f_TSteps {K : PySem.W.Frag} {h : Heap} {mg : Str → Option Value} (X : K.In h) (G : h.Ns mainGlobals mg) (c : Hd.Says Hh.facts Hh.defs K) : TSteps K mg (a_cs K) (a_cc K) (a_xc K) :=
  ⟨(f_TLad X G c),
   (Hd.def_of X G (c.at_ 49 rfl) (c.def_ 10 rfl) (fun _ _ _ _ _ _ us hl => match us, hl with | [_], _ => rfl)),
   (Hd.def_of X G (c.at_ 50 rfl) (c.def_ 11 rfl) (fun _ _ _ _ _ _ us hl => match us, hl with | [_, _], _ => rfl)),
   (Hd.def_of X G (c.at_ 51 rfl) (c.def_ 12 rfl) (fun _ _ _ _ _ _ us hl => match us, hl with | [_], _ => rfl)),
   (Hd.no_of X G (c.at_ 6 rfl)),
   (Hd.no_of X G (c.at_ 52 rfl)),
   (Hd.no_of X G (c.at_ 44 rfl)),
   (Hd.no_of X G (c.at_ 53 rfl)),
   (Hd.no_of X G (c.at_ 54 rfl))⟩
theorem f_TCells {K : PySem.W.Frag} {h : Heap} {mg : Str → Option Value} (X : K.In h) (G : h.Ns mainGlobals mg) (c : Hd.Says Hh.facts Hh.defs K) : TCells K mg :=
  ⟨(Hd.def_of X G (c.at_ 55 rfl) (c.def_ 13 rfl) (fun _ _ _ _ _ _ us hl => match us, hl with | [_, _], _ => rfl)),
   (Hd.def_of X G (c.at_ 56 rfl) (c.def_ 14 rfl) (fun _ _ _ _ _ _ us hl => match us, hl with | [_, _], _ => rfl)),
   (Hd.no_of X G (c.at_ 6 rfl))⟩
theorem f_TKind2 {K : PySem.W.Frag} {h : Heap} {mg : Str → Option Value} (X : K.In h) (G : h.Ns mainGlobals mg) (c : Hd.Says Hh.facts Hh.defs K) : TKind2 K mg (a_xc K) :=
  ⟨(f_TExs X G c),
   (Hd.def_of X G (c.at_ 57 rfl) (c.def_ 15 rfl) (fun _ _ _ _ _ _ us hl => match us, hl with | [_], _ => rfl)),
   (Hd.no_of X G (c.at_ 12 rfl)),
   (Hd.no_of X G (c.at_ 58 rfl))⟩
theorem f_TOwn {K : PySem.W.Frag} {h : Heap} {mg : Str → Option Value} (X : K.In h) (G : h.Ns mainGlobals mg) (c : Hd.Says Hh.facts Hh.defs K) : TOwn K mg (a_cs K) (a_cc K) (a_xc K) :=
  ⟨(f_TSteps X G c),
   (f_TCells X G c),
   (f_TKind2 X G c),
   (Hd.cls_of X G (c.at_ 59 rfl)),
   (Hd.na_of (c.at_ 60 rfl)),
   (Hd.met_of (c.at_ 61 rfl) (c.def_ 16 rfl) (fun _ _ _ _ _ _ us hl => match us, hl with | [_, _], _ => rfl)),
   (Hd.def_of X G (c.at_ 62 rfl) (c.def_ 17 rfl) (fun _ _ _ _ _ _ us hl => match us, hl with | [_, _], _ => rfl)),
   (Hd.def_of X G (c.at_ 63 rfl) (c.def_ 18 rfl) (fun _ _ _ _ _ _ us hl => match us, hl with | [_], _ => rfl)),
   (Hd.def_of X G (c.at_ 64 rfl) (c.def_ 19 rfl) (fun _ _ _ _ _ _ us hl => match us, hl with | [_, _], _ => rfl)),
   (Hd.def_of X G (c.at_ 65 rfl) (c.def_ 20 rfl) (fun _ _ _ _ _ _ us hl => match us, hl with | [_, _, _], _ => rfl)),
   (Hd.def_of X G (c.at_ 66 rfl) (c.def_ 21 rfl) (fun _ _ _ _ _ _ us hl => match us, hl with | [_], _ => rfl)),
   (Hd.no_of X G (c.at_ 6 rfl)),
   (Hd.no_of X G (c.at_ 52 rfl)),
   (Hd.no_of X G (c.at_ 44 rfl)),
   (Hd.no_of X G (c.at_ 53 rfl)),
   (Hd.no_of X G (c.at_ 67 rfl)),
   (Hd.no_of X G (c.at_ 68 rfl)),
   (Hd.no_of X G (c.at_ 12 rfl))⟩
theorem f_Txt {K : PySem.W.Frag} {h : Heap} {mg : Str → Option Value} (X : K.In h) (G : h.Ns mainGlobals mg) (c : Hd.Says Hh.facts Hh.defs K) : Txt K mg (a_cs K) (a_cc K) (a_xc K) :=
  ⟨(Hd.law_of X G (c.at_ 0 rfl) (c.def_ 0 rfl) (fun _ _ _ _ _ _ _ => rfl)),
   (f_TOwn X G c)⟩
theorem law_fin {P : Program} {w : World} {K : PySem.W.Frag} {mg : Str → Option Value} {h : Heap} {fa : Addr} (X : K.In h) (G : h.Ns mainGlobals mg) (hfa : mg "law" = some (.ref fa)) (c : Hd.Says Hh.facts Hh.defs K) :
    ∃ fd : FuncData, (∀ (s : Shared) (u : Value), BindsTo s fd ⟨[u], []⟩ [("_law_script", u)]) ∧ ∀ base : Heap, K.In base → base.Ns mainGlobals mg → FnOk P w K mg base CX0 50 fa fd ["_law_script"] (spLaw K) :=
  law_end (f_Txt X G c).law hfa fun base f fd F => ok_law (f_Txt X G c) F
end My
end
open PySem PySem.W PySem.Calls PyProof.Rows
set_option maxRecDepth 100000 in
set_option maxHeartbeats 0 in
theorem PySem.Challenge.cw_rungworks_k52_rows_by_numbers_holds : PySem.Challenge.rw_rungworks_k52_rows_by_numbers.Holds := by
  w_on; o_law
  refine HandSHeadRun.head_any (r := OpenLaw.row PySem.Challenge.rw_rungworks_k52_rows_by_numbers) (q := view (OpenLaw.row PySem.Challenge.rw_rungworks_k52_rows_by_numbers).prog [50]) (H := Hh.hk) (ob := Hh.ob) (M := 9000) (loose := Hh.names) (d := HandSHeadRun.topDef (OpenLaw.row PySem.Challenge.rw_rungworks_k52_rows_by_numbers).prog 50) (kwd := []) Hh.ob_eq
    (by kernel_rfl) (fun s => by kernel_rfl) Hh.run (by kernel_rfl) (by kernel_rfl) (by kernel_rfl) (by rfl) (by first | assumption | decide +kernel) (by decide +kernel) ⟨rfl, rfl, rfl, rfl, rfl, by decide +kernel⟩ ?hw ?hc
  case hw => w_witness2
  case hc =>
    exact Hd.walk (l := PySem.Challenge.rw_rungworks_k52_rows_by_numbers) (n := Hh.addrs) (k := 50) (p := "_law_script") (B := Hh.facts) (fn := Hh.defs) ⟨rfl, by decide, by decide⟩ rfl (by kernel_rfl) (by kernel_rfl) fun w mg fa h K X G hmg c => My.law_fin X G hmg c
#print axioms PySem.Challenge.cw_rungworks_k52_rows_by_numbers_holds
