import PyProof.Rows.All
import Wide.All
import OpenK.AllK
import Wide.FinOn
import HandS.ForMost
import HandS.Codes
import HandS.Style
import HandS.IsInst
import KE.KDictSum
import HandS.Conv
import HandS.ExcOwn
import HandS.ExcIs
import HandS.HotCalls
import HandS.TupMul
import PySem.Challenge.RW_rungworks_k05_what_makes_none
set_option Elab.async false
set_option linter.all false
set_option maxRecDepth 100000
set_option maxHeartbeats 2000000
namespace Ru
open PySem PySem.Spec PyProof.Rows L2

/-! ## a def of the module as a caller sees it -/
/-- the def called x is the module's, with body st -/
structure DefAt (K : PySem.W.Frag) (mg : Str → Option Value) (x : Str) (st : Stmt) (ps : List Str) : Prop where
  ex : ∃ f fd, mg x = some (.ref f) ∧ Fun K x x st f fd ∧ Binds K fd ps []
/-- the def called x keeps the promise sp -/
structure FnAt (P : Program) (w : World) (K : PySem.W.Frag) (mg : Str → Option Value) (base : Heap) (cx : CXT) (x : Str) (k : Nat) (ps : List Str) (sp : Sp) : Prop where
  ex : ∃ f fd, mg x = some (.ref f) ∧ PySem.W.keepIn K (.ref f) = true ∧ Binds K fd ps [] ∧ FnOk P w K mg base cx k f fd ps sp
theorem FnAt.mono {P : Program} {w : World} {K : PySem.W.Frag} {mg : Str → Option Value} {base : Heap} {cx : CXT} {x : Str} {j k : Nat} {ps : List Str} {sp : Sp} (F : FnAt P w K mg base cx x j ps sp) (h : j ≤ k) : FnAt P w K mg base cx x k ps sp := by
  obtain ⟨f, fd, h1, h2, h3, h4⟩ := F.ex
  exact ⟨f, fd, h1, h2, h3, h4.mono h⟩
theorem FnAt.imp {P : Program} {w : World} {K : PySem.W.Frag} {mg : Str → Option Value} {base : Heap} {cx : CXT} {x : Str} {k : Nat} {ps : List Str} {sp sp' : Sp} (F : FnAt P w K mg base cx x k ps sp) (h : ∀ vs H Q E, sp' vs H Q E → sp vs H Q E) : FnAt P w K mg base cx x k ps sp' := by
  obtain ⟨f, fd, h1, h2, h3, h4⟩ := F.ex
  exact ⟨f, fd, h1, h2, h3, h4.imp h⟩
section
variable {P : Program} {w : World} {K : PySem.W.Frag} {mg : Str → Option Value} {base : Heap}
theorem fnAt_ok {x : Str} {st : Stmt} {N ps : List Str} {k : Nat} {sp : Sp} (D : DefAt K mg x st ps) (S : FnScope N ps (defScope st)) (len : ∀ vs H Q E, sp vs H Q E → vs.length = ps.length)
    (hbody : ∀ (f : Addr) (cdv : Value) (A : Around) (outer : List Env) (s : Shared) (H : Hp) (vs : List V) (Q : VK) (E : XK), Room k (A.deeper (envOfC x (defScope st) s.heap.objs.size f cdv)) → sp vs H Q E →
      ∃ t, PSs (cxOf CX0 P w K mg base N x (defScope st) f cdv A outer s H E).nox (defBody st) t ∧ t { nx := fun _ H' => Q .non H', rt := Q } (start N vs) H) : FnAt P w K mg base CX0 x (k + 1) ps sp := by
  obtain ⟨f, fd, h1, h2, h3⟩ := D.ex
  exact ⟨f, fd, h1, h2.kp, h3, h2.ok S len (hbody f)⟩
theorem defAt_mk {h : Heap} {x : Str} {st : Stmt} {ps : List Str} {f : Addr} {oc : Value} {od an : Option Addr} {osl : Array (Option Value)} {kV doc pm cdv ct : Value} (X : K.In h) (G : h.Ns mainGlobals mg)
    (a : PySem.W.nsIn K mainGlobals x = some (some (.ref f))) (l : K.lookup f = some ⟨oc, od, .func (PySem.W.fnOf x x (defArgs st) (defBody st) (defScope st) .none kV doc pm an cdv ct), osl⟩)
    (c : PySem.W.codeIn K cdv x = true) (k : PySem.W.keepIn K (.ref f) = true)
    (b : ∀ us : List Value, us.length = ps.length → bindArgs (PySem.W.fnOf x x (defArgs st) (defBody st) (defScope st) .none kV doc pm an cdv ct) ⟨us, []⟩ = pure (ps.zip us)) : DefAt K mg x st ps :=
  ⟨f, _, PySem.W.mg_of X G a, fun_mk l c k, .all b⟩
end
section
variable {X : Cx} {cx : CXT} {j k : Nat} {ps : List Str} {sp : Sp} {E : XK} {x : Str} {p pos : Pos} {e : Expr} {es : List Expr} {t : TA}
theorem pe_callF (F : FnAt X.prog X.w X.K X.mg X.base cx x k ps sp) (hr : Room j X.A) (hx : Passes cx X E) (ha : PA X (e :: es) t) (hj : k ≤ j := by decide) (hg : Gl X x := by rfl)
    (hdb : (x == ("__debug__" : Str)) = false := by decide) (he : starEach (e :: es) X.env = (false, eval e X.env) :: starEach es X.env := by rfl) (hpl : (backTo pos (starEach es X.env)).any (·.1) = false := by rfl) :
    PE X (.Call (.Name x p) (e :: es) [] pos) (tCall sp [] E t) := by
  obtain ⟨f, fd, h1, h2, h3, h4⟩ := F.ex
  exact pe_call h4 (hr.mono hj) hg h1 h2 h3 .nil hx ha hdb he hpl
theorem pe_callF0 (F : FnAt X.prog X.w X.K X.mg X.base cx x k ps sp) (hr : Room j X.A) (hx : Passes cx X E) (hj : k ≤ j := by decide) (hg : Gl X x := by rfl)
    (hdb : (x == ("__debug__" : Str)) = false := by decide) : PE X (.Call (.Name x p) [] [] pos) (tCall sp [] E tNil) := by
  obtain ⟨f, fd, h1, h2, h3, h4⟩ := F.ex
  exact pe_call0 h4 (hr.mono hj) hg h1 h2 h3 .nil hx hdb
end

/-! ## constants of the module -/
/-- the module's name x holds the value v -/
def GlobC (mg : Str → Option Value) (x : Str) (v : V) : Prop := ∃ u, mg x = some u ∧ RelV v u
theorem pe_gc {X : Cx} {x : Str} {v : V} {pos : Pos} (h : GlobC X.mg x v) (hg : Gl X x := by rfl) (hd : (x == ("__debug__" : Str)) = false := by decide) : PE X (.Name x pos) (tC v) := by
  obtain ⟨u, h1, h2⟩ := h
  exact pe_glob hg h1 h2 hd
/-- a tuple that stands wherever one looks -/
def TupK (K : PySem.W.Frag) (a : Addr) (xs : List V) : Prop := ∀ H, SqT K H a xs
def GlobT (K : PySem.W.Frag) (mg : Str → Option Value) (x : Str) (xs : List V) : Prop := ∃ a, mg x = some (.ref a) ∧ TupK K a xs
def tGT (K : PySem.W.Frag) (xs : List V) : TE := fun _ H Q => ∀ a, TupK K a xs → Q (.ref a) H
theorem pe_gt {X : Cx} {x : Str} {xs : List V} {pos : Pos} (h : GlobT X.K X.mg x xs) (hg : Gl X x := by rfl) (hd : (x == ("__debug__" : Str)) = false := by decide) : PE X (.Name x pos) (tGT X.K xs) := by
  obtain ⟨a, h1, h2⟩ := h
  exact ⟨fun pins s σ H Q I q => (pe_glob (v := .ref a) hg h1 rfl hd).run pins s σ H Q I (q a h2)⟩
/-- what a written tuple's items are -/
def valsB : List V → List Value → Bool
  | [], [] => true
  | x :: xs, u :: us => (absV u == some x) && valsB xs us
  | _, _ => false
theorem relV_of_abs {x : V} {u : Value} (h : absV u = some x) : RelV x u := by
  cases u <;> simp [absV] at h <;> subst h <;> first | rfl | exact ⟨_, rfl⟩
theorem vals_of_B : ∀ {xs : List V} {us : List Value}, valsB xs us = true → Vals xs us
  | [], [], _ => .nil
  | x :: xs, u :: us, h => by
    unfold valsB at h
    rw [Bool.and_eq_true] at h
    exact .cons (relV_of_abs (by simpa using h.1)) (vals_of_B h.2)
  | [], _ :: _, h => by simp [valsB] at h
  | _ :: _, [], h => by simp [valsB] at h
theorem globT_mk {K : PySem.W.Frag} {mg : Str → Option Value} {h : Heap} {x : Str} {a : Addr} {n : Nat} {its : Array Value} {od : Option Addr} {sl : Array (Option Value)} {xs : List V} (X : K.In h) (G : h.Ns mainGlobals mg)
    (ha : PySem.W.nsIn K mainGlobals x = some (some (.ref a))) (l : K.lookup a = some ⟨.type "tuple", od, .seq its n, sl⟩) (hs : its.size ≤ sizeLine) (hv : Vals xs its.toList) : GlobT K mg x xs :=
  ⟨a, PySem.W.mg_of X G ha, fun _ => .inr ⟨_, its, n, l, rfl, rfl, hs, hv⟩⟩
theorem globC_mk {K : PySem.W.Frag} {mg : Str → Option Value} {h : Heap} {x : Str} {u : Value} {v : V} (X : K.In h) (G : h.Ns mainGlobals mg) (ha : PySem.W.nsIn K mainGlobals x = some (some u)) (r : RelV v u) : GlobC mg x v :=
  ⟨u, PySem.W.mg_of X G ha, r⟩

theorem pc_inK {X : Cx} {x : Str} {xs : List V} {a : Expr} {ta : TE} {pos : Pos} (h : GlobT X.K X.mg x xs) (ha : PE X a ta) (hg : Gl X x := by rfl) (hd : (x == ("__debug__" : Str)) = false := by decide) :
    PC X .In a (.Name x pos) (fun σ H Q => ta σ H fun v H1 => flatV v = true ∧ xs.all flatV = true ∧ Q (.bl (inV v xs)) H1) := by
  obtain ⟨b, h1, h2⟩ := h
  refine ⟨fun pins s σ H Q I q => ?_⟩
  refine bin (R := fun v u H2 => u = .ref b ∧ flatV v = true ∧ xs.all flatV = true ∧ Q (.bl (inV v xs)) H2) ha (pe_glob (v := .ref b) hg h1 rfl hd) I ?_ fun v u s2 x y H2 I2 rx ry q => ?_
  · refine (show ta σ H fun v H1 => (V.ref b = .ref b ∧ flatV v = true ∧ xs.all flatV = true ∧ Q (.bl (inV v xs)) H1) from ?_)
    have : (fun v H1 => flatV v = true ∧ xs.all flatV = true ∧ Q (.bl (inV v xs)) H1) = (fun (v : V) (H1 : Hp) => (V.ref b = .ref b ∧ flatV v = true ∧ xs.all flatV = true ∧ Q (.bl (inV v xs)) H1)) := by
      funext v H1
      simp
    rw [← this]
    exact q
  · obtain ⟨rfl, q1, q2, q3⟩ := q
    exact op_in_seq pins s2 σ H2 _ _ _ _ Q I2 rx ry ⟨b, xs, rfl, .inr (h2 H2), q1, q2, q3⟩
theorem pc_notInK {X : Cx} {x : Str} {xs : List V} {a : Expr} {ta : TE} {pos : Pos} (h : GlobT X.K X.mg x xs) (ha : PE X a ta) (hg : Gl X x := by rfl) (hd : (x == ("__debug__" : Str)) = false := by decide) :
    PC X .NotIn a (.Name x pos) (fun σ H Q => ta σ H fun v H1 => flatV v = true ∧ xs.all flatV = true ∧ Q (.bl (!inV v xs)) H1) := by
  obtain ⟨b, h1, h2⟩ := h
  refine ⟨fun pins s σ H Q I q => ?_⟩
  refine bin (R := fun v u H2 => u = .ref b ∧ flatV v = true ∧ xs.all flatV = true ∧ Q (.bl (!inV v xs)) H2) ha (pe_glob (v := .ref b) hg h1 rfl hd) I ?_ fun v u s2 x y H2 I2 rx ry q => ?_
  · refine (show ta σ H fun v H1 => (V.ref b = .ref b ∧ flatV v = true ∧ xs.all flatV = true ∧ Q (.bl (!inV v xs)) H1) from ?_)
    have : (fun v H1 => flatV v = true ∧ xs.all flatV = true ∧ Q (.bl (!inV v xs)) H1) = (fun (v : V) (H1 : Hp) => (V.ref b = .ref b ∧ flatV v = true ∧ xs.all flatV = true ∧ Q (.bl (!inV v xs)) H1)) := by
      funext v H1
      simp
    rw [← this]
    exact q
  · obtain ⟨rfl, q1, q2, q3⟩ := q
    exact op_notIn_seq pins s2 σ H2 _ _ _ _ Q I2 rx ry ⟨b, xs, rfl, .inr (h2 H2), q1, q2, q3⟩

/-! ## texts as lists of code points -/
def mkS (l : List Nat) : Str := ⟨l.toArray⟩
theorem mkS_len (l : List Nat) : (mkS l).length = l.length := by simp [mkS, Str.length]
theorem mkS_tl (z : Str) : mkS z.cps.toList = z := by simp [mkS]
theorem tl_mkS (l : List Nat) : (mkS l).cps.toList = l := by simp [mkS]
theorem mkS_inj {a b : List Nat} (h : mkS a = mkS b) : a = b := by rw [← tl_mkS a, ← tl_mkS b, h]
theorem mkS_app (a b : List Nat) : mkS a ++ mkS b = mkS (a ++ b) := by
  show Str.append _ _ = _
  simp [Str.append, mkS]
theorem empty_mk : ("" : Str) = mkS [] := by decide +kernel
theorem mkS_one (c : Nat) : (⟨#[c]⟩ : Str) = mkS [c] := rfl
theorem cutS_to (l : List Nat) (n : Nat) : cutS (mkS l) none (some (n : Int)) = mkS (l.take n) := by
  unfold cutS
  rw [HT.sIx_none, HT.sIx_nat, mkS_len, tl_mkS]
  show mkS _ = _
  congr 1
  rw [List.drop_zero, Nat.sub_zero]
  by_cases h : n ≤ l.length
  · rw [Nat.min_eq_left h]
  · rw [Nat.min_eq_right (by omega), List.take_of_length_le (Nat.le_refl _), List.take_of_length_le (by omega)]
theorem cutS_from (l : List Nat) (n : Nat) : cutS (mkS l) (some (n : Int)) none = mkS (l.drop n) := by
  unfold cutS
  rw [HT.sIx_none, HT.sIx_nat, mkS_len, tl_mkS]
  show mkS _ = _
  congr 1
  by_cases h : n ≤ l.length
  · rw [Nat.min_eq_left h, List.take_of_length_le (by rw [List.length_drop]; omega)]
  · rw [Nat.min_eq_right (by omega), List.drop_of_length_le (Nat.le_refl _), List.drop_of_length_le (by omega)]
    simp
theorem cutS_le (z : Str) (lo hi : Option Int) : (cutS z lo hi).length ≤ z.length := by
  unfold cutS Str.length
  simp only [List.size_toArray, List.length_take, List.length_drop, Array.length_toList]
  omega
theorem len_app (x y : Str) : (x ++ y).length = x.length + y.length := strLen_append x y
/-- the item at an int's place -/
theorem atI_int {α : Type} {xs : List α} {i : Int} {v : α} (h0 : 0 ≤ i) (h : xs[i.toNat]? = some v) : atI xs i = some v := by
  obtain ⟨n, rfl⟩ := Int.eq_ofNat_of_zero_le h0
  exact atI_nat h

theorem atI_ex {α : Type} {xs : List α} {i : Int} (h0 : 0 ≤ i) (h : i < xs.length) : ∃ v, v ∈ xs ∧ atI xs i = some v := by
  have hn : i.toNat < xs.length := by omega
  exact ⟨xs[i.toNat], List.getElem_mem hn, atI_int h0 (List.getElem?_eq_getElem hn)⟩
theorem line_ge {n : Nat} (h : n ≤ 1000000) : n ≤ sizeLine := by rw [sizeLine_eq]; omega
/-- the law's def, and how its one argument binds -/
structure LawAt (K : PySem.W.Frag) (mg : Str → Option Value) (st : Stmt) (p : Str) : Prop where
  ex : ∃ f fd, mg "law" = some (.ref f) ∧ Fun K "law" "law" st f fd ∧ ∀ u : Value, bindArgs fd ⟨[u], []⟩ = pure [(p, u)]
theorem lawAt_mk {K : PySem.W.Frag} {mg : Str → Option Value} {h : Heap} {st : Stmt} {p : Str} {f : Addr} {oc : Value} {od an : Option Addr} {osl : Array (Option Value)} {kV doc pm cdv ct : Value} (X : K.In h) (G : h.Ns mainGlobals mg)
    (a : PySem.W.nsIn K mainGlobals "law" = some (some (.ref f))) (l : K.lookup f = some ⟨oc, od, .func (PySem.W.fnOf "law" "law" (defArgs st) (defBody st) (defScope st) .none kV doc pm an cdv ct), osl⟩)
    (c : PySem.W.codeIn K cdv "law" = true) (k : PySem.W.keepIn K (.ref f) = true)
    (b : ∀ u : Value, bindArgs (PySem.W.fnOf "law" "law" (defArgs st) (defBody st) (defScope st) .none kV doc pm an cdv ct) ⟨[u], []⟩ = pure [(p, u)]) : LawAt K mg st p :=
  ⟨f, _, PySem.W.mg_of X G a, fun_mk l c k, b⟩
theorem law_end {prog : Program} {w : World} {K : PySem.W.Frag} {mg : Str → Option Value} {st : Stmt} {p : Str} {fa : Addr} {cx : CXT} {k : Nat} {sp : Sp} (L : LawAt K mg st p) (hfa : mg "law" = some (.ref fa))
    (ok : ∀ (base : Heap) (f : Addr) (fd : FuncData), Fun K "law" "law" st f fd → FnOk prog w K mg base cx k f fd [p] sp) :
    ∃ fd : FuncData, (∀ (s : Shared) (u : Value), BindsTo s fd ⟨[u], []⟩ [(p, u)]) ∧ ∀ base : Heap, K.In base → base.Ns mainGlobals mg → FnOk prog w K mg base cx k fa fd [p] sp := by
  obtain ⟨f, fd, h1, h2, h3⟩ := L.ex
  have e : f = fa := by
    have := h1.symm.trans hfa
    injection this with e
    injection e
  subst e
  exact ⟨fd, fun s u => .of_eq (h3 u), fun base _ _ => ok base f fd h2⟩
/-- what is promised of a law: True, whatever stands -/
def spLaw (K : PySem.W.Frag) : Sp := fun vs H Q _ => ∃ (a : Addr) (ns : List Int), vs = [.ref a] ∧ SqL K H a (ns.map V.int) ∧ ns.length ≤ 63 ∧ ∀ H', Q (.bl true) H'
theorem law_walk {l : PySem.W.OpenLaw} {q : Program} {loose : List Str} {XP : (Str → Option Value) → Heap → Prop} {YP : World → Heap → Prop} {d : DefRec} {K : Params → PySem.W.Frag} {cx : CXT} {k : Nat} {p : Str} (hr : Room k callerA) (hn : l.most = some 63) (hdf : d.params.defaults = [])
    (hY : ∀ (w : World) (h : Heap), YP w h → (K w.params).In h) (hcx : ∀ (H : Hp) (s : Shared) (e : Value) (s' : Shared), cx [] H s (fun _ _ _ => False) e s' → False)
    (F : ∀ (w : World) (mg : Str → Option Value) (fa : Addr) (h : Heap), (K w.params).In h → h.Ns mainGlobals mg → mg d.name = some (.ref fa) →
      ∃ fd : FuncData, (∀ (s : Shared) (u : Value), BindsTo s fd ⟨[u], []⟩ [(p, u)]) ∧ ∀ base : Heap, (K w.params).In base → base.Ns mainGlobals mg → FnOk l.prog w (K w.params) mg base cx k fa fd [p] (spLaw (K w.params))) :
    PySem.W.WalkO q loose XP YP l.row.toRowW d [] (fun f vs => PySem.call f vs) :=
  L2.walk_of (n := 63) (k := k) (x := p) (CX := fun _ => cx) (sp := fun w => spLaw (K w.params)) hn (by decide) hdf hr hY F (fun _ _ a ns hl _ hS => ⟨a, ns, rfl, hS, hl, fun _ => rfl⟩) fun _ H s e s' z => hcx H s e s' z

/-! ## isinstance of flat values and bool, int, str -/
def isBlV : V → Bool
  | .bl _ => true
  | _ => false
def isIntV : V → Bool
  | .bl _ => true
  | .int _ => true
  | _ => false
def isStrV : V → Bool
  | .str _ => true
  | _ => false
theorem scal_ii {a b : Int} : scal (.int a) (.int b) = true := rfl
theorem scal_bb {a b : Bool} : scal (.bl a) (.bl b) = true := rfl
theorem scal_ss {a b : Str} : scal (.str a) (.str b) = true := rfl
theorem scal_sb {a : Str} {b : Bool} : scal (.str a) (.bl b) = true := rfl
theorem scal_bs {a : Str} {b : Bool} : scal (.bl b) (.str a) = true := rfl
theorem flat_s {z : Str} : flatV (.str z) = true := rfl
theorem flat_i {z : Int} : flatV (.int z) = true := rfl
theorem flat_b {z : Bool} : flatV (.bl z) = true := rfl
theorem flat_n : flatV .non = true := rfl
def rIsF (n : String) (f : V → Bool) : List V → Hp → VK → Prop := fun xs H Q => ∃ x, xs = [x, .ty n] ∧ flatV x = true ∧ Q (.bl (f x)) H
theorem call_isF {X : Cx} {n : String} {f : V → Bool} (hn : kitB "NoneType" n = some (f .non)) (hb : ∀ b, kitB "bool" n = some (f (.bl b))) (hi : ∀ i, kitB "int" n = some (f (.int i))) (hs : ∀ z, kitB "str" n = some (f (.str z))) :
    CallR X (.builtin "isinstance") (rIsF n f) := by
  intro pins s σ H xs us Q I r h
  obtain ⟨x, rfl, fx, q⟩ := h
  refine call_isi pins s σ H _ us Q I r ?_
  cases x with
  | non => exact ⟨_, _, _, _, _, rfl, .ty n, .base (.non), kit_ty hn, q⟩
  | bl b => exact ⟨_, _, _, _, _, rfl, .ty n, .base (.bl b), kit_ty (hb b), q⟩
  | int i => exact ⟨_, _, _, _, _, rfl, .ty n, .base (.int i), kit_ty (hi i), q⟩
  | str z => exact ⟨_, _, _, _, _, rfl, .ty n, .base (.str z), kit_ty (hs z), q⟩
  | byt b => cases fx
  | flt b => cases fx
  | ref a => cases fx
  | ty a => cases fx
theorem call_isBool {X : Cx} : CallR X (.builtin "isinstance") (rIsF "bool" isBlV) :=
  call_isF (by decide +kernel) (fun _ => (by decide +kernel : kitB "bool" "bool" = some true)) (fun _ => (by decide +kernel : kitB "int" "bool" = some false)) fun _ => (by decide +kernel : kitB "str" "bool" = some false)
theorem call_isInt {X : Cx} : CallR X (.builtin "isinstance") (rIsF "int" isIntV) :=
  call_isF (by decide +kernel) (fun _ => (by decide +kernel : kitB "bool" "int" = some true)) (fun _ => (by decide +kernel : kitB "int" "int" = some true)) fun _ => (by decide +kernel : kitB "str" "int" = some false)

theorem Same.new {H : Hp} {p : Addr} {o : HO} (h : H p = none) : Same H (upd H p o) := fun b u e => by
  rw [upd_ne (ne_of_none e h)]
  exact e
/-- a store to what H does not know -/
theorem Same.mut {H H' : Hp} {p : Addr} {o : HO} (s : Same H H') (h : H p = none) : Same H (upd H' p o) := fun b u e => by
  rw [upd_ne (ne_of_none e h)]
  exact s b u e
theorem Same.seqT {K : PySem.W.Frag} {H H' : Hp} {a : Addr} {xs : List V} (e : Same H H') (h : SqT K H a xs) : SqT K H' a xs := by
  rcases h with (h | ⟨o, h⟩) | h
  · exact .inl (.inl (e _ _ h))
  · exact .inl (.inr ⟨o, e _ _ h⟩)
  · exact .inr h
/-- [..] == [] of an empty list -/
theorem ne_empty {K : PySem.W.Frag} {H : Hp} {a b : Addr} {Q : VK} (ha : SqL K H a []) (hb : SqL K H b []) (q : Q (.bl false) H) : rNeD K (.ref a) (.ref b) H Q :=
  ⟨.list [], .list [], .lst ha .nil, .lst hb .nil, by decide +kernel, by decide +kernel, q⟩

/-! ## one's own short ways -/
abbrev St : Type := L2.St
theorem exw {α : Type} {P : α → Prop} {a : α} (h : P a) : ∃ x, P x := ⟨a, h⟩
/-- for over a text that the body leaves as it is -/
theorem for_str {x : Str} {g : TG} {tb : TS} {D : Ends} {σ : St} {H : Hp} (Pv : Nat → St → Hp → Prop) (h0 : Pv 0 σ H)
    (hs : ∀ i c σ H, x.cps[i]? = some c → Pv i σ H → g (.str ⟨#[c]⟩) σ H fun σ2 H2 => tb { D with nx := Pv (i + 1), ct := Pv (i + 1), bk := D.nx } σ2 H2) (hd : ∀ σ H, Pv x.cps.size σ H → D.nx σ H) :
    ∃ W : Nat → Nat → St → Hp → Prop, (∃ m, W 0 m σ H) ∧ ∀ i m σ H, W i m σ H →
      ((Its x).stop i H ∧ D.nx σ H) ∨ ((Its x).go i H ∧ ∃ N : St → Hp → Prop, (∀ σ' H', N σ' H' → ∃ m', m' < m ∧ W (i + 1) m' σ' H') ∧ ∀ v H', (Its x).yld i H v H' → g v σ H' fun σ2 H2 => tb { D with nx := N, ct := N, bk := D.nx } σ2 H2) := by
  refine ⟨fun i m σ H => m = x.cps.size - i ∧ i ≤ x.cps.size ∧ Pv i σ H, ⟨x.cps.size, by simp, Nat.zero_le _, h0⟩, ?_⟩
  rintro i m σ H ⟨rfl, hi, p⟩
  by_cases hlt : i < x.cps.size
  · refine .inr ⟨hlt, Pv (i + 1), fun σ' H' p' => ⟨x.cps.size - (i + 1), by omega, rfl, hlt, p'⟩, fun v H' y => ?_⟩
    obtain ⟨e, c, hc, y⟩ := y
    subst e y
    exact hs i c σ _ hc p
  · have e : i = x.cps.size := by omega
    subst e
    exact .inl ⟨Nat.le_refl _, hd σ H p⟩
theorem gcons_eq {t : TG} {u : TGs} {v : V} {r : List V} {σ : L2.St} {H : Hp} {Q : L2.St → Hp → Prop} : gCons t u (v :: r) σ H Q ↔ t v σ H fun σ' H' => u r σ' H' Q :=
  ⟨fun ⟨_, _, e, q⟩ => by cases e; exact q, fun q => ⟨v, r, rfl, q⟩⟩
theorem gnil_eq {σ : L2.St} {H : Hp} {Q : L2.St → Hp → Prop} : gNil [] σ H Q ↔ Q σ H := ⟨fun ⟨_, q⟩ => q, fun q => ⟨rfl, q⟩⟩
theorem cxOf_K {CX : CXT} {P : Program} {w : World} {K : PySem.W.Frag} {mg : Str → Option Value} {base : Heap} {N : List Str} {q : Str} {sc : Scope} {f : Addr} {cd : Value} {A : Around} {outer : List Env} {s : Shared} {H : Hp} {E : XK} :
    (cxOf CX P w K mg base N q sc f cd A outer s H E).K = K := rfl
end Ru

set_option Elab.async false
set_option linter.all false
set_option maxRecDepth 100000
set_option maxHeartbeats 2000000
/-! objects: methods by the receiver's class, tuple(d.keys()), xs != [] of any list -/
namespace Ru
open PySem PySem.Spec PyProof.Rows L2
abbrev St' : Type := L2.St

/-! ## methods by class -/
structure DispAt (P : Program) (w : World) (K : PySem.W.Frag) (mg : Str → Option Value) (base : Heap) (cx : CXT) (T : Addr → Prop) (m : Str) (k : Nat) (ps : List Str) (sp : Addr → Sp) : Prop where
  ex : ∀ C, T C → ∃ f fd, Cls K C ∧ Meth K C m f ∧ Binds K fd ps [] ∧ FnOk P w K mg base cx k f fd ps (sp C)
theorem DispAt.mono {P : Program} {w : World} {K : PySem.W.Frag} {mg : Str → Option Value} {base : Heap} {cx : CXT} {T : Addr → Prop} {m : Str} {j k : Nat} {ps : List Str} {sp : Addr → Sp} (D : DispAt P w K mg base cx T m j ps sp) (h : j ≤ k) : DispAt P w K mg base cx T m k ps sp :=
  ⟨fun C t => let ⟨f, fd, h1, h2, h3, h4⟩ := D.ex C t; ⟨f, fd, h1, h2, h3, h4.mono h⟩⟩
theorem DispAt.imp {P : Program} {w : World} {K : PySem.W.Frag} {mg : Str → Option Value} {base : Heap} {cx : CXT} {T : Addr → Prop} {m : Str} {k : Nat} {ps : List Str} {sp sp' : Addr → Sp} (D : DispAt P w K mg base cx T m k ps sp) (h : ∀ C vs H Q E, T C → sp' C vs H Q E → sp C vs H Q E) : DispAt P w K mg base cx T m k ps sp' :=
  ⟨fun C t => let ⟨f, fd, h1, h2, h3, h4⟩ := D.ex C t; ⟨f, fd, h1, h2, h3, h4.imp fun vs H Q E => h C vs H Q E t⟩⟩
/-- o.m(..), o an instance of one of the classes T -/
def tMethD (T : Addr → Prop) (m : Str) (sp : Addr → Sp) (E : XK) (ta : TE) (t : TA) : TE := fun σ H Q => ta σ H fun x H1 => ∃ a C dx fs, x = .ref a ∧ H1 a = some (.ins C dx fs) ∧ T C ∧ fs.lookup m = none ∧
  t σ H1 fun vs H2 => sp C (x :: vs) H2 Q E
section
variable {X : Cx} {cx : CXT} {j k : Nat} {ps : List Str} {sp : Addr → Sp} {E : XK} {T : Addr → Prop} {m : Str} {p pos apos : Pos} {e o : Expr} {es : List Expr} {ta : TE} {t : TA}
theorem pe_methD {pl : Sem Bool} (D : DispAt X.prog X.w X.K X.mg X.base cx T m k ps sp) (hr : Room j X.A) (hx : Passes cx X E) (he : PE X o ta) (ha : PA X (e :: es) t) (hj : k ≤ j := by decide)
    (hst : starEach (e :: es) X.env = (false, eval e X.env) :: starEach es X.env := by rfl) (hpl : (backTo pos (starEach es X.env)).any (·.1) = false := by rfl)
    (ht : eval (.Call (.Attribute o m apos) (e :: es) [] pos) X.env = (do
      let ov ← eval o X.env
      standAt apos.atName
      let (f, first) ← holding [ov] (getMethod ov m pl)
      callWith pos f first (backTo pos (starEach (e :: es) X.env)) (backToKw pos (keywordEach [] X.env))) := by rfl) :
    PE X (.Call (.Attribute o m apos) (e :: es) [] pos) (tMethD T m sp E ta t) := by
  refine ⟨fun pins s σ H Q I h => ?_⟩
  refine PySem.W.methodCall_KW (pl := pl) (thn (he.run pins s σ H _ I h) fun u s1 ⟨x, H1, I1, rx, a, C, dx, fs, ex, ea, tc, l, q⟩ => ?_) ht
  subst ex
  obtain rfl : u = Value.ref a := rx
  obtain ⟨f, fd, c, hm, hb, F⟩ := D.ex C tc
  refine getmeth_ok I1 ea c hm l ?_
  refine PySem.W.callWith_K (first := [.ref a]) (h₀ := X.base) I.ok.mod.kin hm.kp (thn (ha.run pos pins s1 σ H1 _ I1 q) fun us s2 ⟨vs, H2, I2, r, q2⟩ => ⟨I2.kIn, ?_⟩) hst hpl
  exact run_fn (us := .ref a :: us) (vs := .ref a :: vs) (dvs := []) (ds := []) F (hr.mono hj) hb .nil hx I2 (.cons rfl r) (by rw [List.append_nil]; exact q2)
theorem pe_methD0 {pl : Sem Bool} (D : DispAt X.prog X.w X.K X.mg X.base cx T m k ps sp) (hr : Room j X.A) (hx : Passes cx X E) (he : PE X o ta) (hj : k ≤ j := by decide)
    (ht : eval (.Call (.Attribute o m apos) [] [] pos) X.env = (do
      let ov ← eval o X.env
      standAt apos.atName
      let (f, first) ← holding [ov] (getMethod ov m pl)
      callWith pos f first (backTo pos (starEach [] X.env)) (backToKw pos (keywordEach [] X.env))) := by rfl) :
    PE X (.Call (.Attribute o m apos) [] [] pos) (tMethD T m sp E ta tNil) := by
  refine ⟨fun pins s σ H Q I h => ?_⟩
  refine PySem.W.methodCall_KW (pl := pl) (thn (he.run pins s σ H _ I h) fun u s1 ⟨x, H1, I1, rx, a, C, dx, fs, ex, ea, tc, l, q⟩ => ?_) ht
  subst ex
  obtain rfl : u = Value.ref a := rx
  obtain ⟨f, fd, c, hm, hb, F⟩ := D.ex C tc
  refine getmeth_ok I1 ea c hm l ?_
  refine PySem.W.callWith_K0 (first := [.ref a]) I1.kIn hm.kp ?_
  exact run_fn (us := [.ref a]) (vs := [.ref a]) (dvs := []) (ds := []) F (hr.mono hj) hb .nil hx I1 (.cons rfl .nil) q
end
/-- a method of the class at C, as the text has it -/
structure MethAt (K : PySem.W.Frag) (C : Addr) (m qual : Str) (st : Stmt) (ps : List Str) : Prop where
  ex : ∃ f fd, Meth K C m f ∧ Fun K m qual st f fd ∧ Binds K fd ps []
theorem methAt_mk {K : PySem.W.Frag} {C : Addr} {m qual : Str} {st : Stmt} {ps : List Str} {f : Addr} {oc : Value} {od an : Option Addr} {osl : Array (Option Value)} {kV doc pm cdv ct : Value}
    (a : PySem.W.findIn K (.ref C) m = some (some (.ref f))) (i : PySem.W.isFn K (.ref f) = true) (l : K.lookup f = some ⟨oc, od, .func (PySem.W.fnOf m qual (defArgs st) (defBody st) (defScope st) .none kV doc pm an cdv ct), osl⟩)
    (c : PySem.W.codeIn K cdv qual = true) (k : PySem.W.keepIn K (.ref f) = true)
    (b : ∀ us : List Value, us.length = ps.length → bindArgs (PySem.W.fnOf m qual (defArgs st) (defBody st) (defScope st) .none kV doc pm an cdv ct) ⟨us, []⟩ = pure (ps.zip us)) : MethAt K C m qual st ps :=
  ⟨f, _, ⟨a, i, k⟩, fun_mk l c k, .all b⟩
theorem methAt_ok {P : Program} {w : World} {K : PySem.W.Frag} {mg : Str → Option Value} {base : Heap} {C : Addr} {m qual : Str} {st : Stmt} {N ps : List Str} {k : Nat} {sp : Sp} (c : Cls K C) (D : MethAt K C m qual st ps) (S : FnScope N ps (defScope st)) (len : ∀ vs H Q E, sp vs H Q E → vs.length = ps.length)
    (hbody : ∀ (f : Addr) (cdv : Value) (A : Around) (outer : List Env) (s : Shared) (H : Hp) (vs : List V) (Q : VK) (E : XK), Room k (A.deeper (envOfC qual (defScope st) s.heap.objs.size f cdv)) → sp vs H Q E →
      ∃ t, PSs (cxOf CX0 P w K mg base N qual (defScope st) f cdv A outer s H E).nox (defBody st) t ∧ t { nx := fun _ H' => Q .non H', rt := Q } (start N vs) H) :
    ∃ f fd, Cls K C ∧ Meth K C m f ∧ Binds K fd ps [] ∧ FnOk P w K mg base CX0 (k + 1) f fd ps sp := by
  obtain ⟨f, fd, h1, h2, h3⟩ := D.ex
  exact ⟨f, fd, c, h1, h3, h2.ok S len (hbody f)⟩
/-- what is asked of an own class -/
structure ClsAt (K : PySem.W.Frag) (mg : Str → Option Value) (x : Str) (C : Addr) : Prop where
  mg_ : mg x = some (.ref C)
  cl : Cls K C
  ha : PySem.W.findIn K (.ref C) "__class__" = some (some (.builtin "object.__class__"))
  hn : PySem.W.specialIn K (.builtin "object.__class__") "__get__" = some (some (.builtin "getset_descriptor.__get__"))
  htk : PySem.W.takesIn K (.builtin "object.__class__") = some true
  hm : PySem.W.mroIn K C (.type "object") = some true
  mkg : PySem.W.makesIn K C = true
  kp : PySem.W.keepIn K (.ref C) = true
theorem clsAt_mk {K : PySem.W.Frag} {mg : Str → Option Value} {h : Heap} {x : Str} {C : Addr} (X : K.In h) (G : h.Ns mainGlobals mg) (a : PySem.W.nsIn K mainGlobals x = some (some (.ref C)))
    (pg : PySem.W.plainGet K C Str.empty = true) (hd : PySem.W.hasDictIn K C = true) (po : PySem.W.plainOver K C = true) (sa : PySem.W.findIn K (.ref C) "__setattr__" = some (some (.builtin "object.__setattr__")))
    (ha : PySem.W.findIn K (.ref C) "__class__" = some (some (.builtin "object.__class__"))) (hn : PySem.W.specialIn K (.builtin "object.__class__") "__get__" = some (some (.builtin "getset_descriptor.__get__")))
    (htk : PySem.W.takesIn K (.builtin "object.__class__") = some true) (hm : PySem.W.mroIn K C (.type "object") = some true) (mk : PySem.W.makesIn K C = true) (kp : PySem.W.keepIn K (.ref C) = true) : ClsAt K mg x C :=
  ⟨PySem.W.mg_of X G a, ⟨pg, hd, po, sa⟩, ha, hn, htk, hm, mk, kp⟩
/-- a new instance of the class called x -/
structure MakAt (P : Program) (w : World) (K : PySem.W.Frag) (mg : Str → Option Value) (base : Heap) (cx : CXT) (x : Str) (C : Addr) (k : Nat) (ps : List Str) (sp : Sp) : Prop where
  ex : ∃ f fd, mg x = some (.ref C) ∧ Mk K C f ∧ Binds K fd ps [] ∧ FnOk P w K mg base cx k f fd ps sp
theorem makAt_of {P : Program} {w : World} {K : PySem.W.Frag} {mg : Str → Option Value} {base : Heap} {cx : CXT} {x : Str} {C : Addr} {k : Nat} {ps : List Str} {sp : Sp} (c : ClsAt K mg x C)
    (h : ∃ f fd, Cls K C ∧ Meth K C "__init__" f ∧ Binds K fd ps [] ∧ FnOk P w K mg base cx k f fd ps sp) : MakAt P w K mg base cx x C k ps sp := by
  obtain ⟨f, fd, _, h1, h2, h3⟩ := h
  exact ⟨f, fd, c.mg_, ⟨c.mkg, h1.at_, h1.fn, c.kp⟩, h2, h3⟩
section
variable {X : Cx} {cx : CXT} {j k : Nat} {ps : List Str} {sp : Sp} {E : XK} {x : Str} {C : Addr} {p pos : Pos} {e : Expr} {es : List Expr} {t : TA}
theorem pe_makeF (M : MakAt X.prog X.w X.K X.mg X.base cx x C k ps sp) (hr : Room j X.A) (hx : Passes cx X E) (ha : PA X (e :: es) t) (hj : k + 1 ≤ j := by decide) (hg : Gl X x := by rfl)
    (hdb : (x == ("__debug__" : Str)) = false := by decide) (he : starEach (e :: es) X.env = (false, eval e X.env) :: starEach es X.env := by rfl) (hpl : (backTo pos (starEach es X.env)).any (·.1) = false := by rfl) :
    PE X (.Call (.Name x p) (e :: es) [] pos) (tMake C sp [] E t) := by
  obtain ⟨f, fd, h1, h2, h3, h4⟩ := M.ex
  exact pe_make h2 h4 (hr.mono hj) hg h1 h3 .nil hx ha hdb he hpl
end

/-! ## isinstance(x, C), C one of one's own classes -/
theorem pe_cls {X : Cx} {x : Str} {C : Addr} {pos : Pos} (h : ClsAt X.K X.mg x C) (hg : Gl X x := by rfl) (hd : (x == ("__debug__" : Str)) = false := by decide) : PE X (.Name x pos) (tC (.ref C)) := pe_glob hg h.mg_ rfl hd
/-- the answer, by the receiver's class -/
def rIsO (K : PySem.W.Frag) (D : Addr) (T : Addr → Bool → Prop) : List V → Hp → VK → Prop := fun xs H Q => ∃ a C dx fs b, xs = [.ref a, .ref D] ∧ H a = some (.ins C dx fs) ∧ T C b ∧ Q (.bl b) H
/-- for each class C that may come: what it says, and isinstance's answer -/
def IsT (K : PySem.W.Frag) (D : Addr) (T : Addr → Bool → Prop) : Prop := ∀ C b, T C b → (∃ mg x, ClsAt K mg x C) ∧ PySem.W.kitOne K (.ref C) (.ref D) = some b
theorem call_isO {X : Cx} {D : Addr} {T : Addr → Bool → Prop} (h : IsT X.K D T) : CallR X (.builtin "isinstance") (rIsO X.K D T) := by
  intro pins s σ H xs us Q I r hq
  obtain ⟨a, C, dx, fs, b, rfl, ha, t, q⟩ := hq
  obtain ⟨⟨mg, x, c⟩, e⟩ := h C b t
  obtain ⟨u, w', rfl, ru, rw'⟩ := vals2 r
  cases rw'
  exact isinst_ok I ru (TyOf.ins ha c.cl c.ha c.hn c.htk c.hm) e fun tk => ⟨.bl b, H, I.tok _, rfl, q⟩

/-! ## tuple(d.keys()) -/
section
open PySem.W (KdlSrc kdu_collect KdlKeysView)
variable {prog : Program} {w : World} {A : Around} {E : Value → Shared → Prop} {s : Shared} {T : String} {r d : Addr} {n : Nat} {P : Nat → Value → Prop} {OK : Heap → Prop}
theorem code_tuple_new_kdl {Q₁ : Value → Shared → Prop} (K : KdlSrc prog w T r d n P OK) (hh : A.handled = none) (hok : OK s.heap) (hn : n ≤ sizeLine)
    (h : ∀ (h' : Heap) (tk : Nat) (acc : Array Value), (∀ b o, s.heap.get? b = some o → h'.get? b = some o) → ItemsOf P acc n →
      Q₁ (.ref h'.objs.size) { s with heap := h'.push { cls := .type "tuple", data := .seq acc }, toks := tk }) :
    codeAny (model prog w) A (.call (.builtin "tuple.__new__") ⟨[.type "tuple", .ref r], []⟩) (wants Q₁ E) s := by
  refine codeAny_of_tree ?_
  show wpAny _ A.in1 (do checkBuiltinCall "tuple.__new__" ⟨[.type "tuple", .ref r], []⟩; again (.builtin "tuple.__new__" ⟨[.type "tuple", .ref r], []⟩)) _ _ s
  refine wpAny_bind (wpAny_of_eq (F.newCall_tuple_1 _) (wpAny_pure ⟨plainId_quiet F.plain_tuple_new _, codeAny_builtin F.entry_tuple_new ?_⟩))
  rw [Around.under_plainId F.plain_tuple_new _]
  have hsub := sub_tuple_self
  have hinit := init_tuple_lookup
  have hmh := madeHere_tuple
  have hTI : s.TypeIs (.ref r) T := K.type s hok
  have hh1 : A.in1.handled = none := hh
  have hnt := K.notTuple
  wp_walk using wpAny_typeOf hTI, kdu_collect (A := A.in1) K hh1 hok hn
  intro h' tk acc hk hacc
  show wpAny _ _ (Builtin.Tuple.tupleExact acc.toList.toArray >>= fun v => ret v) _ _ _
  unfold Builtin.Tuple.tupleExact
  refine wpAny_bind (wpAny_newObj_type ?_ (by show acc.toList.toArray.size ≤ sizeLine; simp only [Array.toArray_toList]; rw [hacc.1]; exact hn))
  refine wpAny_pure ?_
  have e : acc.toList.toArray = acc := by simp
  rw [e]
  exact h h' tk acc hk hacc
theorem call_tuple_kdl {Q : Value → Shared → Prop} (K : KdlSrc prog w T r d n P OK) (hh : A.handled = none) (hok : OK s.heap) (hn : n ≤ sizeLine)
    (hQ : ∀ (h' : Heap) (tk : Nat) (acc : Array Value), (∀ b o, s.heap.get? b = some o → h'.get? b = some o) → ItemsOf P acc n →
      Q (.ref h'.objs.size) { s with heap := h'.push { cls := .type "tuple", data := .seq acc }, toks := tk }) :
    wpAny (model prog w) A (call (.type "tuple") [.ref r]) Q E s := by
  refine callType_codes (Q₁ := fun obj s₁ => s₁.TypeIs obj "tuple" ∧ Q obj s₁) F.called_tuple (F.typeCall_tuple_1 _) F.entry_object_init
    (code_tuple_new_kdl (A := A.in1) K hh hok hn fun h' tk acc hk hacc => ⟨⟨_, Heap.get?_push_size _ rfl, rfl⟩, hQ h' tk acc hk hacc⟩) fun obj s₁ h₁ => ?_
  exact ⟨h₁.1, F.args_object_init_2 obj _, object_init_meets F.called_tuple.init.lookup F.called_tuple.made (by decide) prog w A.in1 _ s₁ ⟨h₁.1, rfl, h₁.2⟩⟩
end
def tTupKeys (td : TE) : TE := fun σ H Q => td σ H fun x H1 => ∃ d kvs, x = .ref d ∧ H1 d = some (.dK kvs) ∧ ∀ q, H1 q = none → Q (.ref q) (upd H1 q (.tup (kvs.map fun kv => kV kv.1)))
theorem pe_tupKeys {X : Cx} {e : Expr} {td : TE} {p pos apos cpos : Pos} (hm : X.mg "tuple" = none) (he : PE X e td) (hc : X.calm = true := by rfl) (hg : Gl X "tuple" := by rfl) (hbase : attributeBase e "keys" X.env (eval e X.env) = eval e X.env := by rfl) (hline : (apos.endLine == cpos.line) = true := by rfl)
    (na : starEach [.Call (.Attribute e "keys" apos) [] [] cpos] X.env = (false, eval (.Call (.Attribute e "keys" apos) [] [] cpos) X.env) :: starEach [] X.env := by rfl) :
    PE X (.Call (.Name "tuple" p) [.Call (.Attribute e "keys" apos) [] [] cpos] [] pos) (tTupKeys td) := by
  refine ⟨fun pins s σ H Q I h => ?_⟩
  refine Call_ (ld_blt I hg hm boot_tuple (PyProof.Rows.callWith_type1 (args_cons ?_ na) na))
  refine wpAny_Call_method (T := "dict") (id := "dict.keys") hbase rfl hline F.plainAttrs_dict F.slot_dict_keys F.type_dict_keys (thn (he.run pins s σ H _ I h) fun u s1 ⟨x, H1, I1, rx, d, kvs, ex, hd, q⟩ => ?_)
  subst ex
  obtain rfl : u = Value.ref d := rx
  obtain ⟨z, lo, vs, rk, hdt⟩ := (show ObjOk X.prog X.w H1 s1.heap d (.dK kvs) from I1.hok d _ hd)
  obtain ⟨ep, hat⟩ := hdt.dictAt
  have hl : kvs.length = vs.length := Paired.length rk
  refine ⟨hat.dictOf.typeIs, hat.dictOf.mapOf.noDict, ?_⟩
  have k2 : ∀ b o, s1.heap.get? b = some o → (s1.heap.push { cls := .type "dict_keys", data := .fields #[.ref d] }).get? b = some o := fun b ob q => Heap.get?_push_of_some _ q
  have I2 : Inv X pins σ H1 { s1 with heap := s1.heap.push { cls := .type "dict_keys", data := .fields #[.ref d] } } := I1.kept (t' := s1.toks) k2
  have view : PySem.W.KdlKeysView (s1.heap.push { cls := .type "dict_keys", data := .fields #[.ref d] }) s1.heap.objs.size d := ⟨_, Heap.get?_push_size _ rfl, rfl, rfl⟩
  have fin : wpAny (model X.prog X.w) X.A (call (.type "tuple") [.ref s1.heap.objs.size]) (EP X pins σ Q) X.xe { s1 with heap := s1.heap.push { cls := .type "dict_keys", data := .fields #[.ref d] } } := by
    refine call_tuple_kdl (PySem.W.kdl_keys (knd := mixKind X.prog X.w) (kvs := vs) (ep := ep) (d := d)) (I1.ok.hd hc) ⟨view, hat.push _⟩ (by rw [← hl]; exact z) fun h' tk acc hk hacc => ?_
    have I3 : Inv X pins σ H1 { s1 with heap := h', toks := tk } := I2.kept (h' := h') (t' := tk) hk
    have el : acc.toList.length = acc.size := by simp
    have rv : Vals (kvs.map fun kv => kV kv.1) acc.toList := by
      refine vals_of_at (by rw [List.length_map, el, hacc.1, hl]) fun j x w h1 h2 => ?_
      obtain ⟨k, y, hky, hi⟩ := hacc.2 j w (by rw [← Array.getElem?_toList]; exact h2)
      have e1 : (kvs.map (·.1))[j]? = some k := by
        rw [KV.keys rk, List.getElem?_map, hky] <;> rfl
      have e2 : (kvs.map fun kv => kV kv.1)[j]? = some (kV k) := by
        have e3 : (kvs.map fun kv => kV kv.1) = (kvs.map (·.1)).map kV := by rw [List.map_map] <;> rfl
        rw [e3, List.getElem?_map, e1] <;> rfl
      rw [e2] at h1
      cases h1
      exact keyIs_rel hi
    have hz : (kvs.map fun kv => kV kv.1).length ≤ sizeLine := by rw [List.length_map]; exact z
    have I4 : Inv X pins σ (upd H1 h'.objs.size (.tup (kvs.map fun kv => kV kv.1))) { s1 with heap := h'.push { cls := .type "tuple", data := .seq acc }, toks := tk } := by
      refine I3.laid (t' := tk) (fun b o e => Heap.get?_push_of_some _ e) (Nat.le_refl _) (show ObjOk X.prog X.w _ _ _ (.tup _) from ⟨hz, acc.toList, rv, ?_⟩)
      have e5 : acc.toList.toArray = acc := by simp
      rw [e5]
      exact ⟨_, Heap.get?_push_size _ rfl, rfl, _, rfl⟩
    exact ⟨.ref h'.objs.size, _, I4, rfl, q _ (I3.hok.fresh (Nat.le_refl _))⟩
  show wpAny _ _ (callWith cpos (.builtin "dict.keys") [.ref d] [] []) _ X.xe s1
  exact method_meetsIn F.slot_dict_keys F.entry_dict_keys rfl (PySem.evalArgs_none ⟨rfl, hat.dictOf.typeIs, F.args_dict_keys_1 _, _, PySem.W.kdl_meets_keys (mixKind X.prog X.w) d lo, ⟨vs, hat.dictOf⟩, args_nil fin⟩)

/-! ## xs != [] of any list -/
def rNeE (K : PySem.W.Frag) : R2 := fun x y H Q => ∃ a b xs, x = .ref a ∧ y = .ref b ∧ SqL K H a xs ∧ SqL K H b [] ∧ Q (.bl (!xs.isEmpty)) H
theorem op_neE {X : Cx} (hu : X.A.units < cLine) : OpR X (compareOp .NotEq) (rNeE X.K) := by
  intro pins s σ H x y v u Q I rx ry h
  obtain ⟨a, b, xs, rfl, rfl, ha, hb, q⟩ := h
  obtain rfl : v = .ref a := rx
  obtain rfl : u = .ref b := ry
  obtain ⟨its, r1, p1, z1⟩ := I.list ha
  obtain ⟨jts, r2, p2, z2⟩ := I.list hb
  cases r2
  cases r1 with
  | nil => exact SeqAt.RcNeAt.lists (e := fun _ => true) p1.isList p2.isList rfl hu (fun j h1 _ => absurd h1 (by simp)) X.prog X.w _ _ ⟨.bl _, H, I, rfl, q⟩
  | cons r t => exact SeqAt.RcNeAt.lists_lengths p1.isList p2.isList (by simp) hu X.prog X.w _ _ ⟨.bl _, H, I, rfl, q⟩
/-! ## what never changes: tuples, instances of the classes T -/
def ImmO (T : Addr → Prop) : HO → Prop
  | .tup _ => True
  | .ins C _ _ => T C
  | _ => False
def Imm (T : Addr → Prop) (H H' : Hp) : Prop := ∀ b o, H b = some o → ImmO T o → H' b = some o
theorem Same.imm {T : Addr → Prop} {H H' : Hp} (s : Same H H') : Imm T H H' := fun b o e _ => s b o e
theorem Imm.refl {T : Addr → Prop} (H : Hp) : Imm T H H := fun _ _ e _ => e
theorem Imm.trans {T : Addr → Prop} {H H1 H2 : Hp} (a : Imm T H H1) (b : Imm T H1 H2) : Imm T H H2 := fun c o e i => b c o (a c o e i) i
/-- a store to what may change -/
theorem Imm.mut {T : Addr → Prop} {H : Hp} {p : Addr} {o u : HO} (h : H p = some u) (n : ¬ ImmO T u) : Imm T H (upd H p o) := fun b v e i => by
  rw [upd_ne]
  · exact e
  · rintro rfl
    rw [h] at e
    cases e
    exact n i
theorem Imm.new {T : Addr → Prop} {H : Hp} {p : Addr} {o : HO} (h : H p = none) : Imm T H (upd H p o) := Same.imm (Same.new h)
/-- all but what stands at p -/
def But (p : Addr) (H H' : Hp) : Prop := ∀ b o, H b = some o → b ≠ p → H' b = some o
theorem Same.but {p : Addr} {H H' : Hp} (s : Same H H') : But p H H' := fun b o e _ => s b o e
theorem But.trans {p : Addr} {H H1 H2 : Hp} (a : But p H H1) (b : But p H1 H2) : But p H H2 := fun c o e n => b c o (a c o e n) n
theorem But.upd {p : Addr} {H : Hp} {o : HO} : But p H (upd H p o) := fun b u e n => by rw [upd_ne n]; exact e
theorem But.imm {T : Addr → Prop} {p : Addr} {u : HO} {H H' : Hp} (s : But p H H') (h : H p = some u) (n : ¬ ImmO T u) : Imm T H H' := fun b o e i => s b o e (by
  rintro rfl
  rw [h] at e
  cases e
  exact n i)
theorem But.same {p : Addr} {H0 H H' : Hp} (s0 : Same H0 H) (s : But p H H') (h : H0 p = none) : Same H0 H' := fun b o e => s b o (s0 b o e) (ne_of_none e h)

/-! ## comprehensions: the list so far -/
theorem lc_push {H1 H4 : Hp} {D : Addr} {L : List V} {i : Nat} {y : V} (s : Same H1 H4) (nD : H1 D = none) (h : H4 D = some (.lst (L.take i))) (hy : L[i]? = some y) (hl : L.length ≤ 1000000) :
    ∃ acc, H4 D = some (.lst acc) ∧ acc.length < sizeLine ∧ (Same H1 (upd H4 D (.lst (acc ++ [y]))) ∧ upd H4 D (.lst (acc ++ [y])) D = some (.lst (L.take (i + 1)))) := by
  refine ⟨_, h, ?_, Same.mut s nD, ?_⟩
  · rw [List.length_take, sizeLine_eq]
    omega
  · rw [upd_same, List.take_succ, hy]
    rfl
theorem lk1 {f m : Str} {v : V} (h : (m == f) = false) : List.lookup m [(f, v)] = none := by
  simp [List.lookup, h]
theorem lk1s {f : Str} {v : V} : List.lookup f [(f, v)] = some v := by
  simp [List.lookup]
/-! ## xs == [] of any list; xs.count(y) of flat things; isinstance(t, tuple) -/
def rEqE (K : PySem.W.Frag) : R2 := fun x y H Q => ∃ a b xs, x = .ref a ∧ y = .ref b ∧ SqL K H a xs ∧ SqL K H b [] ∧ Q (.bl xs.isEmpty) H
theorem op_eqE {X : Cx} (hu : X.A.units < cLine) : OpR X (compareOp .Eq) (rEqE X.K) := by
  intro pins s σ H x y v u Q I rx ry h
  obtain ⟨a, b, xs, rfl, rfl, ha, hb, q⟩ := h
  obtain rfl : v = .ref a := rx
  obtain rfl : u = .ref b := ry
  obtain ⟨its, r1, p1, z1⟩ := I.list ha
  obtain ⟨jts, r2, p2, z2⟩ := I.list hb
  cases r2
  cases r1 with
  | nil => exact SeqAt.RcAt.lists (e := fun _ => true) p1.isList p2.isList rfl hu (fun j h1 _ => absurd h1 (by simp)) X.prog X.w _ _ ⟨.bl _, H, I, rfl, q⟩
  | cons r t => exact SeqAt.RcAt.lists_lengths p1.isList p2.isList (by simp) hu X.prog X.w _ _ ⟨.bl _, H, I, rfl, q⟩
theorem count_eqU {x : V} : ∀ {xs : List V} {us : List Value}, Vals xs us → xs.all flatV = true → us.countP (eqU x) = xs.countP fun y => eqV y x
  | _, _, .nil, _ => rfl
  | y :: xs, u :: us, .cons r t, f => by
    rw [List.all_cons, Bool.and_eq_true] at f
    rw [List.countP_cons, List.countP_cons, eqU_of r f.1, count_eqU t f.2]
def rCntF (K : PySem.W.Frag) : V → List V → Hp → VK → Prop := fun x xs H Q => ∃ (p : Addr) (ys : List V) (y : V), x = .ref p ∧ xs = [y] ∧ SqL K H p ys ∧ flatV y = true ∧ ys.all flatV = true ∧ Q (.int ((ys.countP fun z => eqV z y : Nat) : Int)) H
theorem mt_countF {X : Cx} : MtR X "list.count" (rCntF X.K) := by
  intro pins s σ H x xs v us Q I rx rxs h
  obtain ⟨p, ys, y, rfl, rfl, hs, fy, fys, q⟩ := h
  cases rx
  cases rxs with
  | cons ry rt =>
    rename_i uy ut
    cases rt
    obtain ⟨its, rv, ⟨⟨cls, dd, data, sl⟩, n, ho, hc, hdn, hd⟩, hlen⟩ := I.list hs
    simp only at hc hd
    subst hc hd
    refine call_meets PySem.F.slot_list_count ⟨_, ho, rfl⟩ PySem.F.entry_list_count (PySem.F.args_list_count_2 _ _)
      (SeqAt.list_countAt p its.toArray n dd sl uy (eqU y)) ⟨ho, fun w hw => mem_eqAt ry fy rv fys w (by simpa using hw), ?_⟩
    have ec : its.toArray.toList.countP (eqU y) = ys.countP fun z => eqV z y := by
      show its.countP (eqU y) = _
      exact count_eqU rv fys
    refine ⟨.int _, H, I.tok _, ⟨s.toks, ?_⟩, q⟩
    rw [ec]
def rIsTup (K : PySem.W.Frag) : List V → Hp → VK → Prop := fun xs H Q => ∃ a vs, xs = [.ref a, .ty "tuple"] ∧ H a = some (.tup vs) ∧ Q (.bl true) H
theorem call_isTup {X : Cx} : CallR X (.builtin "isinstance") (rIsTup X.K) := by
  intro pins s σ H xs us Q I r h
  obtain ⟨a, vs, rfl, ha, q⟩ := h
  exact call_isi pins s σ H _ us Q I r ⟨_, _, _, _, true, rfl, .ty "tuple", .base (.tup ha), kit_ty (by decide +kernel), q⟩
/-! ## slices of lists -/
theorem cutV_to (l : List V) (n : Nat) : cutV l none (some (n : Int)) = l.take n := by
  unfold cutV
  rw [HT.sIx_none, HT.sIx_nat, List.drop_zero, Nat.sub_zero]
  by_cases h : n ≤ l.length
  · rw [Nat.min_eq_left h]
  · rw [Nat.min_eq_right (by omega), List.take_of_length_le (Nat.le_refl _), List.take_of_length_le (by omega)]
theorem cutV_from (l : List V) (n : Nat) : cutV l (some (n : Int)) none = l.drop n := by
  unfold cutV
  rw [HT.sIx_none, HT.sIx_nat]
  by_cases h : n ≤ l.length
  · rw [Nat.min_eq_left h, List.take_of_length_le (by rw [List.length_drop]; omega)]
  · rw [Nat.min_eq_right (by omega), List.drop_of_length_le (Nat.le_refl _), List.drop_of_length_le (by omega)]
    simp
theorem cutV_last (l : List V) : cutV l none (some (-1)) = l.dropLast := by
  unfold cutV
  rw [HT.sIx_none, List.drop_zero, Nat.sub_zero, List.dropLast_eq_take]
  congr 1
  show (if (-1 : Int) < 0 then ((-1 : Int) + (l.length : Int)).toNat else min (-1 : Int).toNat l.length) = _
  rw [if_pos (by decide)]
  omega
theorem slL_to {K : PySem.W.Frag} {H : Hp} {a : Addr} {xs : List V} {i : Int} {Q : VK} (n : Nat) (e : i = (n : Int)) (h : SqL K H a xs) (k : ∀ p, H p = none → Q (.ref p) (upd H p (.lst (xs.take n)))) : rSlL K (.ref a) none (some i) H Q :=
  ⟨a, xs, rfl, h, fun p np => by rw [e, cutV_to]; exact k p np⟩
theorem slL_from {K : PySem.W.Frag} {H : Hp} {a : Addr} {xs : List V} {i : Int} {Q : VK} (n : Nat) (e : i = (n : Int)) (h : SqL K H a xs) (k : ∀ p, H p = none → Q (.ref p) (upd H p (.lst (xs.drop n)))) : rSlL K (.ref a) (some i) none H Q :=
  ⟨a, xs, rfl, h, fun p np => by rw [e, cutV_from]; exact k p np⟩
theorem slL_last {K : PySem.W.Frag} {H : Hp} {a : Addr} {xs : List V} {Q : VK} (h : SqL K H a xs) (k : ∀ p, H p = none → Q (.ref p) (upd H p (.lst xs.dropLast))) : rSlL K (.ref a) none (some (-1)) H Q :=
  ⟨a, xs, rfl, h, fun p np => by rw [cutV_last]; exact k p np⟩
end Ru

set_option Elab.async false
set_option linter.all false
set_option maxRecDepth 100000
set_option maxHeartbeats 2000000
/-! what is raised: defs that may raise, one's own classes of errors, a def that is asked while one is handled -/
namespace Ru
open PySem PySem.Spec PyProof.Rows L2

/-! ## defs that may raise -/
section
variable {P : Program} {w : World} {K : PySem.W.Frag} {mg : Str → Option Value} {base : Heap}
theorem fnAt_okX {x : Str} {st : Stmt} {N ps : List Str} {k : Nat} {sp : Sp} (D : DefAt K mg x st ps) (S : FnScope N ps (defScope st)) (len : ∀ vs H Q E, sp vs H Q E → vs.length = ps.length)
    (hbody : ∀ (f : Addr) (cdv : Value) (A : Around) (outer : List Env) (s : Shared) (H : Hp) (vs : List V) (Q : VK) (E : XK), Room k (A.deeper (envOfC x (defScope st) s.heap.objs.size f cdv)) → sp vs H Q E →
      ∃ t, PSs (cxOf (L2.CX P w) P w K mg base N x (defScope st) f cdv A outer s H E) (defBody st) t ∧ t { nx := fun _ H' => Q .non H', rt := Q } (start N vs) H) : FnAt P w K mg base (L2.CX P w) x (k + 1) ps sp := by
  obtain ⟨f, fd, h1, h2, h3⟩ := D.ex
  obtain ⟨oc, od, kV, doc, pm, an, cdv, ct, osl, e, lk, hcd⟩ := h2.ex
  subst e
  exact ⟨f, _, h1, h2.kp, h3, fn_of lk hcd S len fun A outer s H vs Q E hr hsp => hbody f cdv A outer s H vs Q E hr hsp⟩
theorem methAt_okX {C : Addr} {m qual : Str} {st : Stmt} {N ps : List Str} {k : Nat} {sp : Sp} (c : Cls K C) (D : MethAt K C m qual st ps) (S : FnScope N ps (defScope st)) (len : ∀ vs H Q E, sp vs H Q E → vs.length = ps.length)
    (hbody : ∀ (f : Addr) (cdv : Value) (A : Around) (outer : List Env) (s : Shared) (H : Hp) (vs : List V) (Q : VK) (E : XK), Room k (A.deeper (envOfC qual (defScope st) s.heap.objs.size f cdv)) → sp vs H Q E →
      ∃ t, PSs (cxOf (L2.CX P w) P w K mg base N qual (defScope st) f cdv A outer s H E) (defBody st) t ∧ t { nx := fun _ H' => Q .non H', rt := Q } (start N vs) H) :
    ∃ f fd, Cls K C ∧ Meth K C m f ∧ Binds K fd ps [] ∧ FnOk P w K mg base (L2.CX P w) (k + 1) f fd ps sp := by
  obtain ⟨f, fd, h1, h2, h3⟩ := D.ex
  obtain ⟨oc, od, kV, doc, pm, an, cdv, ct, osl, e, lk, hcd⟩ := h2.ex
  subst e
  exact ⟨f, _, c, h1, h3, fn_of lk hcd S len fun A outer s H vs Q E hr hsp => hbody f cdv A outer s H vs Q E hr hsp⟩
end
/-- what a callee lets out leaves the def, too -/
theorem passX {X : Cx} {E : XK} (tk : L2.Takes X fun cls d _ H => E cls d H) : Passes (L2.CX X.prog X.w) X E := L2.passes_call tk fun _ _ _ _ h => h
/-- around a try nothing is let out -/
theorem takesN {X : Cx} : L2.Takes X (fun _ _ _ _ => False) := fun _ _ x => by
  obtain ⟨_, _, _, _, _, _, _, _, _, _, _, _, _, _, _, _, z⟩ := x
  exact z.elim
section
variable {X : Cx} {W : WX} {j k : Nat} {ps : List Str} {sp : Sp} {x : Str} {p pos : Pos} {e : Expr} {es : List Expr} {t : TA}
/-- f(e, ..) within a try -/
theorem pe_callT (F : FnAt X.prog X.w X.K X.mg X.base (L2.CX X.prog X.w) x k ps sp) (hr : Room j X.A) (tk : L2.Takes X W) (ha : PA X (e :: es) t) (hj : k ≤ j := by decide) (hg : Gl X x := by rfl)
    (hdb : (x == ("__debug__" : Str)) = false := by decide) (he : starEach (e :: es) X.env = (false, eval e X.env) :: starEach es X.env := by rfl) (hpl : (backTo pos (starEach es X.env)).any (·.1) = false := by rfl) :
    PE X (.Call (.Name x p) (e :: es) [] pos) (tCallS sp (WE W) t) := by
  obtain ⟨f, fd, h1, h2, h3, h4⟩ := F.ex
  exact pe_callS h4 (hr.mono hj) hg h1 h2 h3 (fun σ => L2.passAt tk σ) ha hdb he hpl
end

/-! ## one's own classes of errors -/
/-- a class of errors called x, at C, over L, over ValueError -/
structure ExcAt (K : PySem.W.Frag) (mg : Str → Option Value) (x : Str) (C L : Addr) : Prop where
  gP : mg x = some (.ref C)
  xP : PySem.W.excIn K C [.type "ValueError", .type "Exception", .type "BaseException", .type "object"] "ValueError.__new__" = true
  kP : PySem.W.keepIn K (.ref C) = true
  is_ : ExcC K C
  tP : PySem.W.typeIn K (.ref C) = some (.type "type")
  mro : ∃ cd, PySem.W.clsIn K C = some cd ∧ cd.mro = [.ref C, .ref L, .type "ValueError", .type "Exception", .type "BaseException", .type "object"]
/-- the class over them -/
structure ErrAt (K : PySem.W.Frag) (mg : Str → Option Value) (x : Str) (L : Addr) : Prop where
  gP : mg x = some (.ref L)
  sub : PySem.W.subIn K (.ref L) (.type "BaseException") = some true
  tP : PySem.W.typeIn K (.ref L) = some (.type "type")
  hd : PySem.W.hasDictIn K L = true
theorem excAt_mk {K : PySem.W.Frag} {mg : Str → Option Value} {h : Heap} {x : Str} {C L : Addr} {cd : ClassData} (X : K.In h) (G : h.Ns mainGlobals mg) (a : PySem.W.nsIn K mainGlobals x = some (some (.ref C)))
    (b : PySem.W.excIn K C [.type "ValueError", .type "Exception", .type "BaseException", .type "object"] "ValueError.__new__" = true) (c : PySem.W.keepIn K (.ref C) = true)
    (d : PySem.W.findIn K (.ref C) "__getattribute__" = some (some (.builtin "BaseException.__getattribute__"))) (e : PySem.W.findIn K (.ref C) "__getattr__" = some none) (f : PySem.W.subIn K (.ref C) (.type "BaseException") = some true) (g : PySem.W.hasDictIn K C = true)
    (i : PySem.W.findIn K (.ref C) "__class__" = some (some (.builtin "object.__class__"))) (j : PySem.W.specialIn K (.builtin "object.__class__") "__get__" = some (some (.builtin "getset_descriptor.__get__"))) (k : PySem.W.takesIn K (.builtin "object.__class__") = some true)
    (l : PySem.W.mroIn K C (.type "object") = some true) (m : PySem.W.typeIn K (.ref C) = some (.type "type")) (n : PySem.W.clsIn K C = some cd) (o : cd.mro = [.ref C, .ref L, .type "ValueError", .type "Exception", .type "BaseException", .type "object"]) : ExcAt K mg x C L :=
  ⟨PySem.W.mg_of X G a, b, c, ⟨d, e, f, g, i, j, k, l⟩, m, cd, n, o⟩
theorem errAt_mk {K : PySem.W.Frag} {mg : Str → Option Value} {h : Heap} {x : Str} {L : Addr} (X : K.In h) (G : h.Ns mainGlobals mg) (a : PySem.W.nsIn K mainGlobals x = some (some (.ref L)))
    (b : PySem.W.subIn K (.ref L) (.type "BaseException") = some true) (c : PySem.W.typeIn K (.ref L) = some (.type "type")) (d : PySem.W.hasDictIn K L = true) : ErrAt K mg x L := ⟨PySem.W.mg_of X G a, b, c, d⟩
section
variable {K : PySem.W.Frag} {mg mg' : Str → Option Value} {x y : Str} {C D L M : Addr}
theorem ExcAt.subs (T : ExcAt K mg x C L) (v : Value) : PySem.W.subIn K (.ref C) v = some ([.ref C, .ref L, .type "ValueError", .type "Exception", .type "BaseException", .type "object"].contains v) := by
  obtain ⟨cd, h1, h2⟩ := T.mro
  show PySem.W.mroIn K C v = _
  unfold PySem.W.mroIn
  rw [h1, Option.bind_some, h2]
  rfl
theorem ExcAt.caught (T : ExcAt K mg x C L) (E : ErrAt K mg' y L) : PySem.W.exmOne K (.ref C) (.ref L) = some true := by
  refine PySem.W.exm_ref E.sub E.hd E.tP ?_
  rw [T.subs]
  congr 1
  simp
/-- isinstance(e, D) of an error of class C -/
theorem ExcAt.kit (T : ExcAt K mg x C L) (U : ExcAt K mg' y D L) (nl : C ≠ L ∧ D ≠ L) : PySem.W.kitOne K (.ref C) (.ref D) = some (decide (C = D)) := by
  obtain ⟨cd, h1, h2⟩ := U.mro
  unfold PySem.W.kitOne
  by_cases h : C = D
  · rw [if_pos (by rw [h]; exact beq_self_eq_true _), decide_eq_true h]
  · rw [if_neg (by rw [beq_iff_eq]; intro q; exact h (Value.ref.inj q)), decide_eq_false h]
    show (if ((PySem.W.clsIn K D).isSome && PySem.W.typeIn K (.ref D) == some (.type "type")) = true then PySem.W.subIn K (.ref C) (.ref D) else none) = _
    rw [h1, U.tP, if_pos (show ((some cd).isSome && some (Value.type "type") == some (Value.type "type")) = true from rfl), T.subs]
    congr 1
    have e1 : (Value.ref D == Value.ref C) = false := by
      rw [beq_eq_false_iff_ne]
      intro q
      exact h (Value.ref.inj q).symm
    have e2 : (Value.ref D == Value.ref L) = false := by
      rw [beq_eq_false_iff_ne]
      intro q
      exact nl.2 (Value.ref.inj q)
    rw [List.contains_cons, e1, List.contains_cons, e2]
    rfl
theorem ExcAt.kitV (T : ExcAt K mg x C L) : PySem.W.kitOne K (.ref C) (.type "ValueError") = some true := by
  unfold PySem.W.kitOne
  rw [if_neg (by rw [beq_iff_eq]; intro q; cases q)]
  show (if PySem.W.kitMeta "ValueError" = true then PySem.W.subIn K (.ref C) (.type "ValueError") else none) = _
  rw [if_pos (by decide +kernel), T.subs]
  congr 1
end
section
variable {X : Cx} {W : WX} {C L : Addr} {x m : Str} {j : Nat} {p p2 pos pos' : Pos}
/-- raise C('m') -/
theorem ps_raiseO (hc : X.calm = true) (T : ExcAt X.K X.mg x C L) (tk : L2.Takes X W) (hg : Gl X x := by rfl) (hdb : (x == ("__debug__" : Str)) = false := by decide) :
    PS X (.Raise (some (.Call (.Name x p) [.Constant (.str m) j p2] [] pos)) none pos') (fun _ σ H => W (.ref C) none σ H) :=
  L2.ps_raise hc tk (L2.pmk_own PySem.F.excBase_ValueError T.xP T.gP T.kP (raises_own T.is_.hs T.tP) hg hdb)
end

/-! ## a def that is asked of the error that is handled -/
/-- the promise of a def that bears the handled error's object p among its arguments -/
structure FnP (P : Program) (w : World) (K : PySem.W.Frag) (mg : Str → Option Value) (base : Heap) (CX : CXT) (k : Nat) (f : Addr) (fd : FuncData) (ps : List Str) (sp : Addr → Value → Option Addr → Sp) : Prop where
  len : ∀ a c d vs H Q E, sp a c d vs H Q E → vs.length = ps.length
  run : ∀ (A : Around) (outer : List Env) (s : Shared) (H : Hp) (args : Args) (us : List Value) (vs : List V) (Q : VK) (E : XK) (p : Addr × Obj) (c : Value) (d : Option Addr), Zc c d p.2 → (∃ vs, p.2.data = .fields vs) → L2H.RoomH k A → L2H.PinOk outer H s p → Env0 P w K mg base A outer s H → BindsTo s fd args (ps.zip us) → Vals vs us → sp p.1 c d vs H Q E →
    codeAny (model P w) A (.call (.ref f) args) (CR CX outer P w H s Q E) s
structure FnPAt (P : Program) (w : World) (K : PySem.W.Frag) (mg : Str → Option Value) (base : Heap) (cx : CXT) (x : Str) (k : Nat) (ps : List Str) (sp : Addr → Value → Option Addr → Sp) : Prop where
  ex : ∃ f fd, mg x = some (.ref f) ∧ PySem.W.keepIn K (.ref f) = true ∧ Binds K fd ps [] ∧ FnP P w K mg base cx k f fd ps sp
theorem fnPAt_ok {P : Program} {w : World} {K : PySem.W.Frag} {mg : Str → Option Value} {base : Heap} {x : Str} {st : Stmt} {N ps : List Str} {k : Nat} {sp : Addr → Value → Option Addr → Sp} (D : DefAt K mg x st ps) (S : FnScope N ps (defScope st)) (len : ∀ a c d vs H Q E, sp a c d vs H Q E → vs.length = ps.length)
    (hbody : ∀ (f : Addr) (cdv : Value) (A : Around) (outer : List Env) (s : Shared) (H : Hp) (vs : List V) (Q : VK) (E : XK) (p : Addr × Obj) (c : Value) (d : Option Addr), Zc c d p.2 → (∃ vs, p.2.data = .fields vs) → L2H.RoomH k (A.deeper (envOfC x (defScope st) s.heap.objs.size f cdv)) → sp p.1 c d vs H Q E →
      ∃ t, PSs (L2H.cxH CX0 P w K mg base N x (defScope st) f cdv A outer s H E p).nox (defBody st) t ∧ t { nx := fun _ H' => Q .non H', rt := Q } (start N vs) H) : FnPAt P w K mg base CX0 x (k + 1) ps sp := by
  obtain ⟨f, fd, h1, h2, h3⟩ := D.ex
  obtain ⟨oc, od, kV, doc, pm, an, cdv, ct, osl, e, lk, hcd⟩ := h2.ex
  subst e
  refine ⟨f, _, h1, h2.kp, h3, len, fun A outer s H args us vs Q E p cl d hz hf hr hpin e0 hb r hsp => ?_⟩
  have there : K.In s.heap := e0.mod.kin.keeps fun b o z => (e0.bs b o z).1
  have seen : ∀ y ∈ ps.zip us, (defScope st).names.lookup y.1 = some .local ∨ ((defScope st).names.lookup y.1 = some .cell ∧ ((cellsFrom (s.heap.objs.size + 1) (defScope st).names []).lookup y.1).isSome = true) := fun y hy =>
    (S.par y.1 (List.of_mem_zip hy).1).imp id fun q => ⟨q, PySem.W.cellsFrom_some _ _ _ (.inl q)⟩
  refine codeAny_call_function hr.depth (there _ _ lk) rfl S.co S.gen rfl (PySem.W.codeRec_of there hcd) (hb _ _ _ _ (wpAny_newFunctionEnv_cells S.kind seen fun env he s1 y => ?_))
  subst he
  have lim : s.heap.NoLimit := e0.mod.nolimit.keeps fun b o z => (e0.bs b o z).1
  refine ⟨lim.keeps y.toInCall.keep, codeAny_func ?_⟩
  obtain ⟨t, ht, hq⟩ := hbody f cdv A outer s H vs Q E p cl d hz hf (hr.deeper _) hsp
  refine wpAny_mono (ht.nox.run [] s1 (L2.start N vs) H _ (L2H.inv_startH S hpin e0 (len _ _ _ _ _ _ _ hsp) r y) hq) (fun fl s' hs => ?_) fun e s' hs => hs
  match fl, hs with
  | .ret u, ⟨v, _, H', J, rv, q⟩ => exact ⟨v, H', J.os, J.bare, J.base, J.hok, rv, q⟩
  | .next, ⟨_, H', J, q⟩ => exact ⟨.non, H', J.os, J.bare, J.base, J.hok, rfl, q⟩
  | .brk, ⟨_, _, _, q⟩ => exact False.elim q
  | .cont, ⟨_, _, _, q⟩ => exact False.elim q
/-- f(e, ..) in an except suite -/
theorem pe_callP {X : Cx} {a : Addr} {oe : Obj} {pn : List (Addr × Obj)} {j k : Nat} {x : Str} {ps : List Str} {sp : Addr → Value → Option Addr → Sp} {cls : Value} {d : Option Addr} {q pos : Pos} {e : Expr} {es : List Expr} {t : TA} (F : FnPAt X.prog X.w X.K X.mg X.base CX0 x k ps sp) (hz : Zc cls d oe) (hf : ∃ vs, oe.data = .fields vs) (hr : Room j X.A)
    (ha : PA (X.suite a ((a, oe) :: pn)) (e :: es) t) (hj : k ≤ j := by decide) (hg : Gl X x := by rfl)
    (hdb : (x == ("__debug__" : Str)) = false := by decide) (he : starEach (e :: es) X.env = (false, eval e X.env) :: starEach es X.env := by rfl) (hpl : (backTo pos (starEach es X.env)).any (·.1) = false := by rfl) :
    PE (X.suite a ((a, oe) :: pn)) (.Call (.Name x q) (e :: es) [] pos) (tCall (sp a cls d) [] E0 t) := by
  obtain ⟨f, fd, h1, h2, h3, h4⟩ := F.ex
  have room0 := (L2H.roomH_of hr).mono hj
  have room : L2H.RoomH k (X.suite a ((a, oe) :: pn)).A := ⟨room0.dp, room0.un⟩
  refine ⟨fun pins s σ H Q I h => wpAny_Call_Name_kw (ld_glob I hg h1 (PySem.W.callWith_K (h₀ := X.base) I.ok.mod.kin h2 (thn (ha.run pos pins s σ H _ I h) fun us s1 ⟨vs, H1, I1, r, z⟩ => ⟨I1.kIn, ?_⟩) he hpl) hdb)⟩
  have z : sp a cls d (vs ++ []) H1 Q E0 := z
  rw [List.append_nil] at z
  have b := h3 s1 us I1.kIn (by rw [List.append_nil, ← r.length]; exact h4.len _ _ _ _ _ _ _ z)
  rw [List.append_nil] at b
  obtain ⟨g1, g2, g3, g4, g5⟩ := I1.pin (a, oe) (List.mem_append_left _ List.mem_cons_self)
  refine wpAny_call (codeAny_mono (h4.run _ (X.suite a ((a, oe) :: pn)).stack s1 H1 ⟨us, []⟩ us vs Q E0 (a, oe) cls d hz hf room ⟨g1, g2, fun hm => (List.mem_cons.mp (I1.stkSub a hm)).elim g3 g4, g5⟩ I1.env0 b r z) fun r s' hq => ?_)
  match r, hq with
  | .error e, hq => exact False.elim hq
  | .ok (.ret u), hq => exact I1.after hq
  | .ok .next, hq => exact False.elim hq
  | .ok .brk, hq => exact False.elim hq
  | .ok .cont, hq => exact False.elim hq
/-- isinstance(e, c) in such a def, p's object an error of class C -/
def rIsP (K : PySem.W.Frag) (C : Addr) (p : Addr × Obj) : List V → Hp → VK → Prop := fun xs H Q => ∃ (c : V) (cv : Value) (b : Bool), xs = [.ref p.1, c] ∧ (∀ u, RelV c u → u = cv) ∧ PySem.W.kitOne K (.ref C) cv = some b ∧ Q (.bl b) H
/-- of some classes -/
def rIsPT (K : PySem.W.Frag) (C : Addr) (p : Addr × Obj) : List V → Hp → VK → Prop := fun xs H Q => ∃ (tp : Addr) (cs : List V) (us : List Value) (b : Bool), xs = [.ref p.1, .ref tp] ∧ H tp = some (.tup cs) ∧ Paired ClsV cs us ∧ PySem.W.kitAny K (.ref C) us = some b ∧ Q (.bl b) H
theorem instAt_of {h : Heap} {a D : Addr} {oe : Obj} (g : h.get? a = some oe) (hz : Zc (.ref D) none oe) (hf : ∃ vs, oe.data = .fields vs) : PySem.W.InstAt h a oe D none := by
  obtain ⟨vs, hv⟩ := hf
  refine ⟨g, hz.1, ?_, ?_⟩
  · unfold PySem.W.notCls
    rw [hv]
  · rw [hz.2]
    trivial
section
variable {X : Cx} {C : Addr} {p : Addr × Obj}
theorem call_isP (T : ExcC X.K C) (hz : Zc (.ref C) none p.2) (hf : ∃ vs, p.2.data = .fields vs) (hp : p ∈ X.pn) : CallR X (.builtin "isinstance") (rIsP X.K C p) := by
  intro pins s σ H xs us Q I r h
  obtain ⟨c, cv, b, rfl, hcv, e, q⟩ := h
  obtain ⟨u, w', rfl, ru, rw'⟩ := vals2 r
  cases (show u = Value.ref p.1 from ru)
  have ec := hcv _ rw'
  subst ec
  exact PySem.W.kia_one (PySem.W.handS_kitx_exc T.hg T.hk T.hs T.hd T.ha T.hn T.ht T.hm) I.kIn (instAt_of (I.pin p (List.mem_append_left _ hp)).1 hz hf) e (fun z => nomatch z) fun tk => ⟨.bl b, H, I.tok tk, rfl, q⟩
theorem call_isPT (T : ExcC X.K C) (hz : Zc (.ref C) none p.2) (hf : ∃ vs, p.2.data = .fields vs) (hp : p ∈ X.pn) : CallR X (.builtin "isinstance") (rIsPT X.K C p) := by
  intro pins s σ H xs us Q I r h
  obtain ⟨tp, cs, ws, b, rfl, hT, k, e, q⟩ := h
  obtain ⟨u, w', rfl, ru, rw'⟩ := vals2 r
  cases (show u = Value.ref p.1 from ru)
  cases (show w' = Value.ref tp from rw')
  obtain ⟨_, its, rv, o, h1, h2, n, h3⟩ := (show ObjOk X.prog X.w H s.heap tp (.tup cs) from I.hok tp _ hT)
  have e3 := ClsV.all k rv
  subst e3
  obtain ⟨oc, od, dt, sl⟩ := o
  simp only at h2 h3
  subst h2 h3
  exact PySem.W.kia_tup (PySem.W.handS_kitx_exc T.hg T.hk T.hs T.hd T.ha T.hn T.ht T.hm) I.kIn (instAt_of (I.pin p (List.mem_append_left _ hp)).1 hz hf) h1 e (fun z => nomatch z) fun tk => ⟨.bl b, H, I.tok tk, rfl, q⟩
end
/-- a class of errors as a value -/
theorem pe_exc {X : Cx} {x : Str} {C L : Addr} {pos : Pos} (h : ExcAt X.K X.mg x C L) (hg : Gl X x := by rfl) (hd : (x == ("__debug__" : Str)) = false := by decide) : PE X (.Name x pos) (tC (.ref C)) := pe_glob hg h.gP rfl hd
/-! ## t[::-1] of a tuple -/
theorem pick_rev (xs : Array Value) : ((List.range xs.size).filterMap fun (m : Nat) => xs[(((xs.size : Int) - 1) + (m : Int) * (-1)).toNat]?).toArray = xs.toList.reverse.toArray := by
  congr 1
  have e : ∀ m ∈ List.range xs.size, xs[(((xs.size : Int) - 1) + (m : Int) * (-1)).toNat]? = xs[xs.size - 1 - m]? := by
    intro m hm
    have := List.mem_range.mp hm
    congr 1
    omega
  have cong : ∀ (l : List Nat) (f g : Nat → Option Value), (∀ m ∈ l, f m = g m) → l.filterMap f = l.filterMap g := by
    intro l f g
    induction l with
    | nil => intro _; rfl
    | cons a r ih =>
      intro h
      rw [List.filterMap_cons, List.filterMap_cons, h a List.mem_cons_self, ih fun m hm => h m (List.mem_cons_of_mem _ hm)]
  rw [cong _ _ _ e]
  have e2 : (List.range xs.size).filterMap (fun m => xs[xs.size - 1 - m]?) = ((List.range xs.size).map fun k => xs.size - 1 - k).filterMap (xs[·]?) := by
    rw [List.filterMap_map]
    rfl
  rw [e2, PySem.W.krv_range, List.filterMap_reverse, PySem.W.krv_all]
section
variable {prog : Program} {w : World} {A : Around} {E : Value → Shared → Prop} {s : Shared}
theorem sliceApplied_rev {sl : Addr} {vs : Value} {n : Nat} {Q : Int × Int × Nat → Shared → Prop} (hs : s.heap.IsSliceOf sl .none .none vs) (ps : IsPart vs (some (-1))) (h : Q ((n : Int) - 1, -1, n) s) :
    wpAny (model prog w) A (Builtin.Slice.sliceApplied (.ref sl) (pure (n : Int))) Q E s := by
  obtain ⟨os, hos, hcs, hds⟩ := id hs
  unfold Builtin.Slice.sliceApplied Builtin.Slice.sliceFields
  refine wpAny_bind (wpAny_bind (wpAny_field hos hds (x := .none) rfl (wpAny_bind (wpAny_field hos hds (x := .none) rfl (wpAny_bind (wpAny_field hos hds (x := vs) rfl (wpAny_pure ?_)))))))
  refine wpAny_bind (HT.slicePart_ ps ?_)
  show wpAny _ _ (if ((-1 : Int) == 0) = true then _ else _) _ _ s
  rw [if_neg (by decide)]
  refine wpAny_bind (HT.slicePart_ .none (wpAny_bind (HT.slicePart_ .none (wpAny_bind (wpAny_pure ?_)))))
  have e : Builtin.Slice.slicePlaces ((n : Int) - 1) (-1) (-1) = n := by
    unfold Builtin.Slice.slicePlaces
    rw [if_neg (by decide)]
    by_cases hn : (n : Int) - 1 > -1
    · rw [if_pos hn, show (- -1 : Int) = 1 by decide, Int.ediv_one]
      omega
    · rw [if_neg hn]
      omega
  show wpAny _ _ (pure ((n : Int) - 1, (-1 : Int), Builtin.Slice.slicePlaces ((n : Int) - 1) (-1) (-1))) _ _ s
  rw [e]
  exact wpAny_pure h
theorem getItem_tuple_rev {t sl : Addr} {items : Array Value} {vs : Value} {Q : Value → Shared → Prop} (ht : IsTup s.heap t items) (hs : s.heap.IsSliceOf sl .none .none vs) (ps : IsPart vs (some (-1)))
    (h : Q (.ref s.heap.objs.size) { s with heap := s.heap.push { cls := .type "tuple", data := .seq items.toList.reverse.toArray } }) (hsz : items.size ≤ sizeLine) : wpAny (model prog w) A (getItem (.ref t) (.ref sl)) Q E s := by
  have room : sizeOk (.seq items.toList.reverse.toArray) := by
    show items.toList.reverse.toArray.size ≤ sizeLine
    rw [List.size_toArray, List.length_reverse, Array.length_toList]
    exact hsz
  obtain ⟨os, hos, hcs, hds⟩ := id hs
  have hTs : s.TypeIs (.ref sl) "slice" := ⟨os, hos, hcs⟩
  unfold getItem
  try with_reducible refine wpAny_holding ?_
  first | refine wpAny_bind (wpAny_pure ?_) | skip
  refine wpAny_bind (wpAny_sequenceKey ht.typeIs (by decide) ?_)
  refine wpAny_bind (wpAny_callSpecial?_slot (name := Str.ofString "__getitem__") ht.typeIs PyProof.Rows.slot_tuple_getitem
    (wpAny_call_entry PyProof.Rows.slot_tuple_getitem ht.typeIs entry_tuple_getitem ?_ (args_tuple_getitem _ _)))
  show wpAny _ _ (Builtin.Tuple.tupleItemsOf (.ref t) >>= _) _ _ s
  refine wpAny_bind (tupleItemsOf_ ht ?_)
  refine wpAny_bind (wpAny_typeOf hTs ?_)
  rw [if_pos (by decide)]
  refine wpAny_bind (sliceApplied_rev hs ps ?_)
  show wpAny _ _ (if ((items.size : Int) - 1 == 0 && (-1 : Int) == 1 && items.size == items.size) = true then _ else _) _ _ s
  rw [if_neg (by rw [show ((-1 : Int) == 1) = false from rfl, Bool.and_false, Bool.false_and]; exact Bool.false_ne_true), pick_rev]
  first
    | exact wpAny_bind (m := Builtin.Tuple.tupleExact _) (wpAny_newObj_type (wpAny_pure ⟨_, rfl, wpAny_pure h⟩) room)
    | exact wpAny_bind (m := Builtin.Tuple.tupleExact _) (wpAny_newObj_type (wpAny_bind (wpAny_pure (wpAny_pure ⟨_, rfl, wpAny_pure h⟩))) room)
    | exact wpAny_bind (wpAny_bind (m := Builtin.Tuple.tupleExact _) (wpAny_newObj_type (wpAny_pure (wpAny_pure ⟨_, rfl, wpAny_pure h⟩)) room))
    | exact wpAny_bind (wpAny_bind (m := Builtin.Tuple.tupleExact _) (wpAny_newObj_type (wpAny_pure ⟨_, rfl, wpAny_pure h⟩) room))
end
def tRevT (K : PySem.W.Frag) (te : TE) : TE := fun σ H Q => te σ H fun x H1 => ∃ a xs, x = .ref a ∧ SqT K H1 a xs ∧ ∀ p, H1 p = none → Q (.ref p) (upd H1 p (.tup xs.reverse))
theorem pe_revT {X : Cx} {e : Expr} {te : TE} {k : Nat} {p1 p2 p3 pos : Pos} (he : PE X e te) : PE X (.Subscript e (.Slice none none (some (.UnaryOp .USub (.Constant (.int 1) k p1) p2)) p3) pos) (tRevT X.K te) := by
  refine ⟨fun pins s σ H Q I h => ?_⟩
  refine Subscript_ (thn (he.run pins s σ H _ I h) fun v s1 ⟨x, H1, I1, r1, a, xs, ex, hx, q⟩ => ?_)
  subst ex
  cases r1
  have hst : PO X (some (.UnaryOp .USub (.Constant (.int 1) k p1) p2)) (tPart (tUn (rU fun i => .int (-i)) (tC (.int 1)))) := po_some (pe_un un_neg pe_int)
  refine wpAny_Slice ?_
  rw [evalPart_none]
  refine wpAny_pure ?_
  refine wpAny_pure ?_
  refine thn (hst.run pins s1 σ H1 (fun o H4 => o = some (-1) ∧ H4 = H1) I1 ⟨1, rfl, -1, rfl, rfl, rfl⟩) fun vs s4 ⟨o, H4, I4, ps, eo, e4⟩ => ?_
  subst eo e4
  have I5 : Inv X pins σ H4 { s4 with heap := s4.heap.push { cls := .type "slice", data := .fields #[.none, .none, vs] } } := I4.kept (t' := s4.toks) fun b ob q => Heap.get?_push_of_some _ q
  obtain ⟨its, r, ht, hz⟩ := I5.tuple hx
  have hlen := r.length
  show wpAny (model X.prog X.w) X.A (subscriptTail e (.Slice none none (some (.UnaryOp .USub (.Constant (.int 1) k p1) p2)) p3) (.ref a) (.ref s4.heap.objs.size)) (EP X pins σ Q) X.xe { s4 with heap := s4.heap.push { cls := .type "slice", data := .fields #[.none, .none, vs] } }
  refine tail_any (ops := [.ref a, .ref s4.heap.objs.size]) ht.typeIs PyProof.Rows.slot_tuple_getitem.lookup ?_ (by with_unfolding_all rfl)
  refine getItem_tuple_rev ht (Heap.IsSliceOf.new _ .none .none vs) ps ?_ (by rw [List.size_toArray]; omega)
  refine ⟨.ref _, _, I5.laid (t' := s4.toks) (o := .tup xs.reverse) (fun b ob q => Heap.get?_push_of_some _ q) (Nat.le_refl _) ?_, rfl, q _ (I5.hok.fresh (Nat.le_refl _))⟩
  exact ⟨by rw [List.length_reverse]; exact hz, _, by simpa using r.reverse, IsTup.new _ _⟩
end Ru

set_option Elab.async false
set_option linter.all false
set_option maxRecDepth 100000
set_option maxHeartbeats 2000000
section
open PySem L2 Ru
local macro_rules | `(tactic| walk_at "rd") => `(tactic| try simp only [tSeq, tAsg, gName, tVar, tC, tOp, rI, rI0, tRet, tDrop, tIfS, tTest, tB, tAndV, tOrV, tNotV, tAnd, tOr, tNot, tIf, tCall, tCons, tNil, tCB, tAug, rEq, rNe, tNext, tRetN, L2.start, List.map_cons, List.map_nil, List.length_cons, List.length_nil, List.replicate, List.cons_append, List.nil_append, List.append_nil, List.getElem?_cons_zero, List.getElem?_cons_succ, List.set_cons_zero, List.set_cons_succ, Option.some.injEq, V.int.injEq, V.str.injEq, V.bl.injEq, V.ref.injEq, List.cons.injEq, exists_eq_left, exists_eq_left', exists_eq_right, exists_and_left, exists_const, true_and, and_true, CDiv, CMul, Int.reduceLT, Int.reduceLE, Int.reducePow, Int.reduceNeg, true_or, or_true, wipe, gcons_eq, gnil_eq, cxOf_K, tSl, rSlS, tLst, tTup, rIsF, isBlV, isIntV, flat_s, flat_i, flat_b, flat_n, rIsB, rNotB, tPart, tNoPart, rIxS, reduceCtorEq, false_and, and_false, false_or, or_false, scal_ii, scal_bb, scal_ss, scal_sb, scal_bs, decide_true, decide_false, if_true, if_false, Bool.false_eq_true, Bool.not_true, Bool.not_false, ite_true, ite_false])

namespace My
def top (i : Nat) : Stmt := PySem.Challenge.pw_rungworks_k05_what_makes_none.main.body.getD i (.Pass ⟨0, 0, 0, 0⟩)
/-! ## names -/
def isLow (c : Nat) : Bool := decide (97 ≤ c ∧ c ≤ 122)
def isWord (z : Str) : Bool := z.cps.toList.all isLow && !z.cps.toList.isEmpty
abbrev sSIGNS : Str := "abcdefghijklmnopqrstuvwxyz"
def keptL : List Str := ["on", "off", "and", "or", "not", "set", "reset", "timer", "counter", "inputs", "outputs"]
def keptV : List V := keptL.map V.str
def isName (z : Str) : Bool := isWord z && decide (z.length ≤ 8) && !decide (z ∈ keptL)
theorem signs_cps : sSIGNS.cps.toList = (List.range 26).map (· + 97) := by decide +kernel
theorem mem_signs {c : Nat} : c ∈ sSIGNS.cps.toList ↔ isLow c = true := by
  rw [signs_cps, List.mem_map]
  unfold isLow
  rw [decide_eq_true_eq]
  constructor
  · rintro ⟨a, h, rfl⟩
    rw [List.mem_range] at h
    omega
  · intro h
    exact ⟨c - 97, List.mem_range.mpr (by omega), by omega⟩
theorem dec_signs {c : Nat} : decide (c ∈ sSIGNS.cps.toList) = isLow c := by
  rw [Bool.eq_iff_iff, decide_eq_true_eq]
  exact mem_signs
theorem inV_strs (z : Str) : ∀ l : List Str, inV (.str z) (l.map V.str) = decide (z ∈ l)
  | [] => by simp [inV]
  | x :: l => by
    have ih := inV_strs z l
    unfold inV at ih ⊢
    rw [List.map_cons, List.any_cons, ih]
    rw [Bool.eq_iff_iff]
    simp [eqV]
    constructor
    · rintro (h | h)
      · exact .inl h.symm
      · exact .inr h
    · rintro (h | h)
      · exact .inl h.symm
      · exact .inr h
theorem flat_strs : ∀ l : List Str, (l.map V.str).all flatV = true
  | [] => rfl
  | x :: l => by rw [List.map_cons, List.all_cons, flat_strs l]; rfl
theorem isWord_ne {z : Str} : (z ≠ ("" : Str)) ↔ z.cps.toList.isEmpty = false := by
  obtain ⟨a⟩ := z
  have e : ("" : Str) = ⟨#[]⟩ := by decide +kernel
  rw [e]
  cases h : a.toList with
  | nil =>
    have : a = #[] := by
      apply Array.ext'
      rw [h]
    subst this
    simp
  | cons x r =>
    refine ⟨fun _ => rfl, fun _ q => ?_⟩
    have q' : a = #[] := by injection q
    subst q'
    cases h
def spIsWord : Sp := fun vs H Q _ => ∃ z : Str, vs = [.str z] ∧ Q (.bl (isWord z)) H
def spIsName : Sp := fun vs H Q _ => ∃ z : Str, vs = [.str z] ∧ z.length ≤ sizeLine ∧ Q (.bl (isName z)) H
abbrev s_is_word : Stmt := top 17
theorem sc_is_word : FnScope ["text", "sign"] ["text"] (defScope s_is_word) := ⟨rfl, rfl, rfl, by decide +kernel, rfl, by decide +kernel, by decide +kernel⟩
abbrev s_is_name : Stmt := top 18
theorem sc_is_name : FnScope ["name"] ["name"] (defScope s_is_name) := ⟨rfl, rfl, rfl, by decide +kernel, rfl, by decide +kernel, by decide +kernel⟩
structure TNames (K : PySem.W.Frag) (mg : Str → Option Value) : Prop where
  d_is_word : DefAt K mg "is_word" s_is_word ["text"]
  d_is_name : DefAt K mg "is_name" s_is_name ["name"]
  g_SIGNS : GlobC mg "SIGNS" (.str sSIGNS)
  g_MOST_SIGNS : GlobC mg "MOST_SIGNS" (.int 8)
  g_KEPT : GlobT K mg "KEPT" keptV
  z_len : mg "len" = none
section
variable {P : Program} {w : World} {K : PySem.W.Frag} {mg : Str → Option Value} {base : Heap}
theorem ok_is_word (T : TNames K mg) : FnAt P w K mg base CX0 "is_word" 1 ["text"] spIsWord := by
  refine fnAt_ok T.d_is_word sc_is_word (fun vs H Q E h => ?_) (fun f cdv A outer s H vs Q E hr h => ?_)
  · obtain ⟨z, rfl, _⟩ := h; rfl
  · obtain ⟨z, rfl, k⟩ := h
    refine ⟨_, (pss_cons (ps_for PassesOwn.never rfl (pi_str (pv 0)) (pg_name (i := 1) sc_is_word.nd rfl (by first | exact Or.inl rfl | exact Or.inr rfl)) (pss_one (ps_if (pt_cmpR op_notIn_sign (pv 1) (pe_gc T.g_SIGNS) rfl) (pss_one (ps_ret pe_bl)) pss_nil)))
        (pss_one (ps_ret (pe_cmpR op_ne (pv 0) pe_str (nomark _))))), ?_⟩
    refine ⟨_, rfl, z, rfl, for_str (x := z) (fun i σ H' => ∃ v, σ = [some (.str z), v] ∧ H' = H ∧ (z.cps.toList.take i).all isLow = true) ⟨none, rfl, rfl, rfl⟩ ?_ ?_⟩
    · rintro i c σ H' hi ⟨v, rfl, rfl, hp⟩
      have hi' : z.cps.toList[i]? = some c := by simpa using hi
      walk_at "rd"
      refine ⟨c, rfl, ?_⟩
      rw [dec_signs]
      by_cases hc : isLow c = true
      · rw [hc]
        simp only [Bool.not_true, Bool.false_eq_true, if_false]
        rw [List.take_succ, hi', List.all_append, hp]
        simp [hc]
      · have hc' : isLow c = false := by simpa using hc
        rw [hc']
        refine iteT ?_
        have e : isWord z = false := by
          unfold isWord
          rw [Bool.and_eq_false_iff]
          left
          rw [List.all_eq_false]
          exact ⟨c, List.mem_of_getElem? hi', by simp [hc']⟩
        rw [e] at k
        exact k
    · rintro σ H' ⟨v, rfl, rfl, hp⟩
      walk_at "rd"
      have e : (!decide (z = "")) = isWord z := by
        unfold isWord
        have hp' : z.cps.toList.all isLow = true := by
          have : z.cps.toList.take z.cps.size = z.cps.toList := by
            rw [List.take_of_length_le]
            simp
          rw [this] at hp
          exact hp
        rw [hp', Bool.true_and, Bool.eq_iff_iff]
        simp only [Bool.not_eq_true', decide_eq_false_iff_not]
        exact isWord_ne
      rw [e]
      exact k
theorem ok_is_name (T : TNames K mg) : FnAt P w K mg base CX0 "is_name" 2 ["name"] spIsName := by
  have G_is_word : FnAt P w K mg base CX0 "is_word" 1 _ spIsWord := ok_is_word T
  refine fnAt_ok T.d_is_name sc_is_name (fun vs H Q E h => ?_) (fun f cdv A outer s H vs Q E hr h => ?_)
  · obtain ⟨z, rfl, _⟩ := h; rfl
  · obtain ⟨z, rfl, hz, k⟩ := h
    refine ⟨_, (pss_one (ps_ret (pe_and (pe_callF G_is_word hr pass0 (pa_cons (pv 0) pa_nil)) (pe_and (pe_cmpR op_le (pe_callB call_len_str (by rfl) T.z_len PySem.boot_len (pa_cons (pv 0) pa_nil)) (pe_gc T.g_MOST_SIGNS) (nomark _)) (pe_one (pe_cmp (pc_notInK T.g_KEPT (pv 0)))))))), ?_⟩
    walk_at "rd"
    refine ⟨z, rfl, ?_⟩
    unfold isName at k
    cases hw : isWord z with
    | false =>
      rw [hw] at k
      exact ⟨false, rfl, iteF k⟩
    | true =>
      rw [hw] at k
      refine ⟨true, rfl, iteT ⟨hz, ?_⟩⟩
      by_cases hl : z.length ≤ 8
      · have hl' : ((z.length : Nat) : Int) ≤ 8 := by omega
        rw [decide_eq_true hl']
        refine iteT ⟨flat_strs _, ?_⟩
        unfold keptV
        rw [inV_strs]
        rw [decide_eq_true hl] at k
        exact k
      · have hl' : ¬ ((z.length : Nat) : Int) ≤ 8 := by omega
        rw [decide_eq_false hl']
        rw [decide_eq_false hl] at k
        exact iteF k
end

/-! ## the law's cells and words -/
def cellAt (ns : List Int) (k : Int) : Int := ns.getD k.toNat 0
def mixed (c k : Int) : Int := (((c + 7919 * k + 11) * 48271 % 2147483647) * ((c + 7919 * k + 11) * 48271 % 2147483647) + 40692 * ((c + 7919 * k + 11) * 48271 % 2147483647)) % 2147483399
theorem mixed_nn (c k : Int) : 0 ≤ mixed c k := Int.emod_nonneg _ (by decide)
theorem mixed_lt (c k : Int) : mixed c k < 2147483399 := Int.emod_lt_of_pos _ (by decide)
def signAt (c : Int) (k : Nat) : Nat := 97 + (mixed c k / 31 % 26).toNat
def wordL (c : Int) (n : Nat) : List Nat := (List.range n).map (signAt c)
theorem wordL_len (c : Int) (n : Nat) : (wordL c n).length = n := by simp [wordL]
theorem wordL_succ (c : Int) (n : Nat) : wordL c (n + 1) = wordL c n ++ [signAt c n] := by simp [wordL, List.range_succ]
theorem wordL_low (c : Int) (n : Nat) : ∀ x ∈ wordL c n, 97 ≤ x ∧ x ≤ 122 := by
  intro x hx
  obtain ⟨k, _, rfl⟩ := List.mem_map.mp hx
  unfold signAt
  have h1 : 0 ≤ mixed c k / 31 % 26 := Int.emod_nonneg _ (by decide)
  have h2 : mixed c k / 31 % 26 < 26 := Int.emod_lt_of_pos _ (by decide)
  omega
theorem letters_at {j : Int} (h0 : 0 ≤ j) (h1 : j < 26) : atI (("abcdefghijklmnopqrstuvwxyz" : Str)).cps.toList j = some (97 + j.toNat) := by
  have e : ("abcdefghijklmnopqrstuvwxyz" : Str).cps.toList = (List.range 26).map (97 + ·) := by decide +kernel
  rw [e]
  refine atI_int h0 ?_
  rw [List.getElem?_map, List.getElem?_range (by omega)]
  rfl
def spCellAt (K : PySem.W.Frag) : Sp := fun vs H Q _ => ∃ (a : Addr) (ns : List Int) (k : Int), vs = [.ref a, .int k] ∧ SqL K H a (ns.map V.int) ∧ 0 ≤ k ∧ Q (.int (cellAt ns k)) H
def spMixed : Sp := fun vs H Q _ => ∃ c k : Int, vs = [.int c, .int k] ∧ Q (.int (mixed c k)) H
def spWord : Sp := fun vs H Q _ => ∃ c n : Int, vs = [.int c, .int n] ∧ 0 ≤ n ∧ n ≤ 1000 ∧ Q (.str (mkS (wordL c n.toNat))) H
abbrev s__law_cell_at : Stmt := top 34
theorem sc__law_cell_at : FnScope ["_law_script", "_law_k"] ["_law_script", "_law_k"] (defScope s__law_cell_at) := ⟨rfl, rfl, rfl, by decide +kernel, rfl, by decide +kernel, by decide +kernel⟩
abbrev s__law_mixed : Stmt := top 35
theorem sc__law_mixed : FnScope ["_law_cell", "_law_k", "_law_mix"] ["_law_cell", "_law_k"] (defScope s__law_mixed) := ⟨rfl, rfl, rfl, by decide +kernel, rfl, by decide +kernel, by decide +kernel⟩
abbrev s__law_word : Stmt := top 36
theorem sc__law_word : FnScope ["_law_cell", "_law_size", "_law_signs", "_law_word_here", "_law_k"] ["_law_cell", "_law_size"] (defScope s__law_word) := ⟨rfl, rfl, rfl, by decide +kernel, rfl, by decide +kernel, by decide +kernel⟩
structure TCells (K : PySem.W.Frag) (mg : Str → Option Value) : Prop where
  d_cell_at : DefAt K mg "_law_cell_at" s__law_cell_at ["_law_script", "_law_k"]
  d_mixed : DefAt K mg "_law_mixed" s__law_mixed ["_law_cell", "_law_k"]
  d_word : DefAt K mg "_law_word" s__law_word ["_law_cell", "_law_size"]
  z_len : mg "len" = none
  z_range : mg "range" = none
section
variable {P : Program} {w : World} {K : PySem.W.Frag} {mg : Str → Option Value} {base : Heap}
theorem ok_cell_at (T : TCells K mg) : FnAt P w K mg base CX0 "_law_cell_at" 1 ["_law_script", "_law_k"] (spCellAt K) := by
  refine fnAt_ok T.d_cell_at sc__law_cell_at (fun vs H Q E h => ?_) (fun f cdv A outer s H vs Q E hr h => ?_)
  · obtain ⟨a, ns, k, rfl, _⟩ := h; rfl
  · obtain ⟨a, ns, n, rfl, hs, h0, k⟩ := h
    refine ⟨_, (pss_cons (ps_if (pt_cmpR op_lt (pv 1) (pe_callB call_len_seq (by rfl) T.z_len PySem.boot_len (pa_cons (pv 0) pa_nil)) (nomark _)) (pss_one (ps_ret (pe_ix ix_list (pv 0) (pv 1) (fun _ _ => rfl)))) pss_nil)
        (pss_one (ps_ret pe_int))), ?_⟩
    walk_at "rd"
    refine ⟨_, .inl hs, ?_⟩
    rw [List.length_map]
    unfold cellAt at k
    by_cases hl : n < (ns.length : Int)
    · rw [decide_eq_true hl]
      have hn : n.toNat < ns.length := by omega
      refine iteT ⟨a, _, _, .int ns[n.toNat], rfl, rfl, hs, ?_, ?_⟩
      · exact atI_int h0 (by rw [List.getElem?_map, List.getElem?_eq_getElem hn]; rfl)
      · rw [List.getD_eq_getElem?_getD, List.getElem?_eq_getElem hn] at k
        exact k
    · rw [decide_eq_false hl]
      have hn : ns.length ≤ n.toNat := by omega
      refine iteF ?_
      rw [List.getD_eq_getElem?_getD, List.getElem?_eq_none hn] at k
      exact k
theorem ok_mixed (T : TCells K mg) : FnAt P w K mg base CX0 "_law_mixed" 1 ["_law_cell", "_law_k"] spMixed := by
  refine fnAt_ok T.d_mixed sc__law_mixed (fun vs H Q E h => ?_) (fun f cdv A outer s H vs Q E hr h => ?_)
  · obtain ⟨c, k, rfl, _⟩ := h; rfl
  · obtain ⟨c, n, rfl, k⟩ := h
    refine ⟨_, (pss_cons (ps_set (i := 2) sc__law_mixed.nd rfl (by first | exact Or.inl rfl | exact Or.inr rfl) (pe_op op_mod (pe_op op_mul (pe_op op_add (pe_op op_add (pv 0) (pe_op op_mul pe_int (pv 1))) pe_int) pe_int) pe_int))
        (pss_one (ps_ret (pe_op op_mod (pe_op op_add (pe_op op_mul (pv 2) (pv 2)) (pe_op op_mul pe_int (pv 2))) pe_int)))), ?_⟩
    walk_at "rd"
    have h1 : 0 ≤ (c + 7919 * n + 11) * 48271 % 2147483647 := Int.emod_nonneg _ (by decide)
    have h2 : (c + 7919 * n + 11) * 48271 % 2147483647 < 2147483647 := Int.emod_lt_of_pos _ (by decide)
    exact ⟨.inl ⟨by omega, by omega⟩, k⟩
theorem ok_word (T : TCells K mg) : FnAt P w K mg base CX0 "_law_word" 2 ["_law_cell", "_law_size"] spWord := by
  have G__law_mixed : FnAt P w K mg base CX0 "_law_mixed" 1 _ spMixed := ok_mixed T
  refine fnAt_ok T.d_word sc__law_word (fun vs H Q E h => ?_) (fun f cdv A outer s H vs Q E hr h => ?_)
  · obtain ⟨c, k, rfl, _⟩ := h; rfl
  · obtain ⟨c, n, rfl, hn0, hn, k⟩ := h
    refine ⟨_, (pss_cons (ps_set (i := 2) sc__law_word.nd rfl (by first | exact Or.inl rfl | exact Or.inr rfl) pe_str)
        (pss_cons (ps_set (i := 3) sc__law_word.nd rfl (by first | exact Or.inl rfl | exact Or.inr rfl) pe_str)
        (pss_cons (ps_for PassesOwn.never rfl (pi_range1 rfl T.z_range (pa_cons (pv 1) pa_nil)) (pg_name (i := 4) sc__law_word.nd rfl (by first | exact Or.inl rfl | exact Or.inr rfl)) (pss_one (ps_aug (i := 3) sc__law_word.nd rfl (by first | exact Or.inl rfl | exact Or.inr rfl) (pe_ix ix_str (pv 2) (pe_op op_mod (pe_op op_fdiv (pe_callF G__law_mixed hr pass0 (pa_cons (pv 0) (pa_cons (pv 4) pa_nil))) pe_int) pe_int) (fun _ _ => rfl)) iop_add_str)))
        (pss_one (ps_ret (pv 3)))))), ?_⟩
    walk_at "rd"
    refine ⟨_, rfl, _, rfl, by omega, by omega, for_range (lo := 0) (n := n.toNat) (fun i σ H' => ∃ v, σ = [some (.int c), some (.int n), some (.str ("abcdefghijklmnopqrstuvwxyz" : Str)), some (.str (mkS (wordL c i))), v] ∧ H' = H) ⟨none, by rw [empty_mk]; rfl, rfl⟩ ?_ ?_⟩
    · rintro i σ H' hi ⟨v, rfl, rfl⟩
      walk_at "rd"
      have h1 : 0 ≤ mixed c (i : Nat) / 31 % 26 := Int.emod_nonneg _ (by decide)
      have h2 : mixed c (i : Nat) / 31 % 26 < 26 := Int.emod_lt_of_pos _ (by decide)
      rw [Int.zero_add]
      refine ⟨_, _, rfl, _, rfl, by decide +kernel, _, letters_at h1 h2, ?_, _, ⟨?_, rfl⟩, rfl⟩
      · rw [mkS_one, mkS_len, mkS_len, wordL_len, sizeLine_eq]
        simp
        omega
      · rw [mkS_one, mkS_app, wordL_succ]
        rfl
    · rintro σ H' ⟨v, rfl, rfl⟩
      walk_at "rd"
      exact k
end

/-! ## conditions: the plain side -/
inductive Cond where
  | fixed (b : Bool)
  | contact (n : Str)
  | not (c : Cond)
  | grp (s : Bool) (cs : List Cond)
mutual
def Cond.size : Cond → Nat
  | .fixed _ => 1
  | .contact _ => 1
  | .not c => c.size + 1
  | .grp _ cs => Cond.sizes cs + 1
def Cond.sizes : List Cond → Nat
  | [] => 0
  | c :: cs => c.size + Cond.sizes cs
end
mutual
def Cond.depth : Cond → Nat
  | .fixed _ => 1
  | .contact _ => 1
  | .not c => c.depth + 1
  | .grp _ cs => Cond.depths cs + 1
def Cond.depths : List Cond → Nat
  | [] => 0
  | c :: cs => max c.depth (Cond.depths cs)
end
def Cond.kids : Cond → List Cond
  | .fixed _ => []
  | .contact _ => []
  | .not c => [c]
  | .grp _ cs => cs
theorem Cond.depth_kids (c : Cond) : c.depth = Cond.depths c.kids + 1 := by
  cases c <;> simp [Cond.depth, Cond.kids, Cond.depths]
theorem Cond.size_kids (c : Cond) : c.size = Cond.sizes c.kids + 1 := by
  cases c <;> simp [Cond.size, Cond.kids, Cond.sizes]
theorem Cond.depth_pos (c : Cond) : 1 ≤ c.depth := by rw [Cond.depth_kids]; omega
theorem Cond.size_pos (c : Cond) : 1 ≤ c.size := by rw [Cond.size_kids]; omega
theorem Cond.depth_mem : ∀ {cs : List Cond} {c : Cond}, c ∈ cs → c.depth ≤ Cond.depths cs
  | x :: cs, c, h => by
    rw [Cond.depths]
    rcases List.mem_cons.mp h with rfl | h
    · omega
    · have := Cond.depth_mem h
      omega
theorem Cond.size_mem : ∀ {cs : List Cond} {c : Cond}, c ∈ cs → c.size ≤ Cond.sizes cs
  | x :: cs, c, h => by
    rw [Cond.sizes]
    rcases List.mem_cons.mp h with rfl | h
    · omega
    · have := Cond.size_mem h
      omega
theorem Cond.sizes_sum : ∀ cs : List Cond, Cond.sizes cs = (cs.map Cond.size).sum
  | [] => rfl
  | c :: cs => by rw [Cond.sizes, Cond.sizes_sum cs, List.map_cons, List.sum_cons]
theorem Cond.len_sizes : ∀ cs : List Cond, cs.length ≤ Cond.sizes cs
  | [] => Nat.le_refl _
  | c :: cs => by
    have h1 := Cond.len_sizes cs
    have h2 := c.size_pos
    rw [Cond.sizes, List.length_cons]
    omega
theorem Cond.depths_le : ∀ cs : List Cond, Cond.depths cs ≤ Cond.sizes cs
  | [] => Nat.le_refl _
  | c :: cs => by
    have ih := Cond.depths_le cs
    have h2 : c.depth ≤ c.size := by
      rw [Cond.depth_kids, Cond.size_kids]
      have := Cond.depths_le c.kids
      omega
    rw [Cond.depths, Cond.sizes]
    omega
termination_by cs => Cond.sizes cs
decreasing_by
  · have := c.size_pos
    simp [Cond.sizes]
    omega
  · have := Cond.size_kids c
    simp [Cond.sizes]
    omega
/-- a truth of each name -/
abbrev Im := Str → Bool
mutual
def Cond.holds (f : Im) : Cond → Bool
  | .fixed b => b
  | .contact n => f n
  | .not c => !c.holds f
  | .grp true cs => Cond.alls f cs
  | .grp false cs => Cond.anys f cs
def Cond.alls (f : Im) : List Cond → Bool
  | [] => true
  | c :: cs => c.holds f && Cond.alls f cs
def Cond.anys (f : Im) : List Cond → Bool
  | [] => false
  | c :: cs => c.holds f || Cond.anys f cs
end
theorem Cond.alls_map (f : Im) : ∀ cs : List Cond, Cond.alls f cs = (cs.map (Cond.holds f)).all id
  | [] => rfl
  | c :: cs => by rw [Cond.alls, Cond.alls_map f cs]; rfl
theorem Cond.anys_map (f : Im) : ∀ cs : List Cond, Cond.anys f cs = (cs.map (Cond.holds f)).any id
  | [] => rfl
  | c :: cs => by rw [Cond.anys, Cond.anys_map f cs]; rfl
/-- names put behind those that are there, each once -/
def addN (l : List Str) (n : Str) : List Str := if n ∈ l then l else l ++ [n]
mutual
def Cond.gather (l : List Str) : Cond → List Str
  | .fixed _ => l
  | .contact n => addN l n
  | .not c => c.gather l
  | .grp _ cs => Cond.gathers l cs
def Cond.gathers (l : List Str) : List Cond → List Str
  | [] => l
  | c :: cs => Cond.gathers (c.gather l) cs
end
def Cond.contacts (c : Cond) : List Str := c.gather []
theorem Cond.gathers_fold : ∀ (l : List Str) (cs : List Cond), Cond.gathers l cs = cs.foldl Cond.gather l
  | l, [] => rfl
  | l, c :: cs => by rw [Cond.gathers, Cond.gathers_fold (c.gather l) cs]; rfl
def word (s : Bool) : Str := if s then "and" else "or"
mutual
def Cond.told : Cond → PyData
  | .fixed b => .tuple [.str "fixed", .bool b]
  | .contact n => .tuple [.str "contact", .str n]
  | .not c => .tuple [.str "not", c.told]
  | .grp s cs => .tuple (.str (word s) :: Cond.tolds cs)
def Cond.tolds : List Cond → List PyData
  | [] => []
  | c :: cs => c.told :: Cond.tolds cs
end
theorem Cond.tolds_map : ∀ cs : List Cond, Cond.tolds cs = cs.map Cond.told
  | [] => rfl
  | c :: cs => by rw [Cond.tolds, Cond.tolds_map cs]; rfl
theorem sizes_app : ∀ a b : List Cond, Cond.sizes (a ++ b) = Cond.sizes a + Cond.sizes b
  | [], b => by simp [Cond.sizes]
  | x :: a, b => by rw [List.cons_append, Cond.sizes, Cond.sizes, sizes_app a b]; omega

/-! ## parts: the objects -/
/-- the five classes -/
structure Cl where
  fx : Addr
  ct : Addr
  tn : Addr
  sr : Addr
  br : Addr
def Cl.gr (cl : Cl) (s : Bool) : Addr := if s then cl.sr else cl.br
def Cl.has (cl : Cl) (C : Addr) : Prop := C = cl.fx ∨ C = cl.ct ∨ C = cl.tn ∨ C = cl.sr ∨ C = cl.br
theorem Cl.has_gr (cl : Cl) (s : Bool) : cl.has (cl.gr s) := by
  cases s <;> simp [Cl.gr, Cl.has]
mutual
/-- at v stands the condition c -/
inductive IsP (cl : Cl) (H : Hp) : V → Cond → Prop
  | fixed {a dx : Addr} {b : Bool} (h : H a = some (.ins cl.fx dx [("value", .bl b)])) : IsP cl H (.ref a) (.fixed b)
  | contact {a dx : Addr} {n : Str} (h : H a = some (.ins cl.ct dx [("name", .str n)])) : IsP cl H (.ref a) (.contact n)
  | not {a dx : Addr} {v : V} {c : Cond} (h : H a = some (.ins cl.tn dx [("part", v)])) (p : IsP cl H v c) : IsP cl H (.ref a) (.not c)
  | grp {a dx t : Addr} {vs : List V} {s : Bool} {cs : List Cond} (h : H a = some (.ins (cl.gr s) dx [("parts", .ref t)])) (ht : H t = some (.tup vs)) (p : IsPs cl H vs cs) : IsP cl H (.ref a) (.grp s cs)
inductive IsPs (cl : Cl) (H : Hp) : List V → List Cond → Prop
  | nil : IsPs cl H [] []
  | cons {v : V} {vs : List V} {c : Cond} {cs : List Cond} (h : IsP cl H v c) (t : IsPs cl H vs cs) : IsPs cl H (v :: vs) (c :: cs)
end
section
variable {cl : Cl} {H H' : Hp} {v : V} {vs : List V} {c : Cond} {cs : List Cond}
mutual
theorem IsP.mono (k : Imm cl.has H H') : ∀ {v : V} {c : Cond}, IsP cl H v c → IsP cl H' v c
  | _, _, .fixed h => .fixed (k _ _ h (.inl rfl))
  | _, _, .contact h => .contact (k _ _ h (.inr (.inl rfl)))
  | _, _, .not h p => .not (k _ _ h (.inr (.inr (.inl rfl)))) (p.mono k)
  | _, _, .grp h ht p => .grp (k _ _ h (cl.has_gr _)) (k _ _ ht trivial) (p.mono k)
theorem IsPs.mono (k : Imm cl.has H H') : ∀ {vs : List V} {cs : List Cond}, IsPs cl H vs cs → IsPs cl H' vs cs
  | _, _, .nil => .nil
  | _, _, .cons p t => .cons (p.mono k) (t.mono k)
end
theorem IsPs.length : ∀ {vs : List V} {cs : List Cond}, IsPs cl H vs cs → vs.length = cs.length
  | _, _, .nil => rfl
  | _, _, .cons _ t => by rw [List.length_cons, List.length_cons, IsPs.length t]
theorem IsPs.at : ∀ {vs : List V} {cs : List Cond} {i : Nat} {v : V}, IsPs cl H vs cs → vs[i]? = some v → ∃ c, cs[i]? = some c ∧ IsP cl H v c
  | _, _, i, v, .nil, h => by simp at h
  | _, _, 0, v, .cons p t, h => by
    simp at h
    subst h
    exact ⟨_, rfl, p⟩
  | _, _, i + 1, v, .cons p t, h => by
    obtain ⟨c, h1, h2⟩ := IsPs.at (i := i) (v := v) t (by simpa using h)
    exact ⟨c, by simpa using h1, h2⟩
theorem IsPs.snoc : ∀ {vs : List V} {cs : List Cond} {v : V} {c : Cond}, IsPs cl H vs cs → IsP cl H v c → IsPs cl H (vs ++ [v]) (cs ++ [c])
  | _, _, _, _, .nil, p => .cons p .nil
  | _, _, _, _, .cons q t, p => .cons q (t.snoc p)
/-- the receiver: an instance of one of the five -/
theorem IsP.obj (p : IsP cl H v c) : ∃ a C dx f x, v = .ref a ∧ H a = some (.ins C dx [(f, x)]) ∧ cl.has C ∧ (f = "value" ∨ f = "name" ∨ f = "part" ∨ f = "parts") := by
  cases p with
  | fixed h => exact ⟨_, _, _, _, _, rfl, h, .inl rfl, .inl rfl⟩
  | contact h => exact ⟨_, _, _, _, _, rfl, h, .inr (.inl rfl), .inr (.inl rfl)⟩
  | not h _ => exact ⟨_, _, _, _, _, rfl, h, .inr (.inr (.inl rfl)), .inr (.inr (.inl rfl))⟩
  | grp h _ _ => exact ⟨_, _, _, _, _, rfl, h, cl.has_gr _, .inr (.inr (.inr rfl))⟩
end
/-- no method is called like a field -/
def notField (m : Str) : Bool := !(m == "value") && !(m == "name") && !(m == "part") && !(m == "parts")
theorem lookup_field {m f : Str} {x : V} (hm : notField m = true) (hf : f = "value" ∨ f = "name" ∨ f = "part" ∨ f = "parts") : List.lookup m [(f, x)] = none := by
  unfold notField at hm
  simp only [Bool.and_eq_true, Bool.not_eq_true'] at hm
  obtain ⟨⟨⟨h1, h2⟩, h3⟩, h4⟩ := hm
  rcases hf with rfl | rfl | rfl | rfl <;> exact lk1 (by assumption)
/-- what the call of a method of a part asks -/
theorem meth_of {cl : Cl} {H : Hp} {v : V} {c : Cond} {m : Str} (hm : notField m = true) (p : IsP cl H v c) : ∃ a C dx fs, v = .ref a ∧ H a = some (.ins C dx fs) ∧ cl.has C ∧ fs.lookup m = none := by
  obtain ⟨a, C, dx, f, x, rfl, h, hc, hf⟩ := p.obj
  exact ⟨a, C, dx, _, rfl, h, hc, lookup_field hm hf⟩
theorem look_of {cl : Cl} {H : Hp} {a C dx : Addr} {fs : List (Str × V)} {c : Cond} {m : Str} (hm : notField m = true) (ha : H a = some (.ins C dx fs)) (p : IsP cl H (.ref a) c) : fs.lookup m = none := by
  obtain ⟨a', C', dx', f, x, e, h, hc, hf⟩ := p.obj
  injection e with e
  subst e
  rw [ha] at h
  cases h
  exact lookup_field hm hf
abbrev s_Part_inner : Stmt := inClass (top 22) 0
theorem sc_Part_inner : FnScope ["self"] ["self"] (defScope s_Part_inner) := ⟨rfl, rfl, rfl, by decide +kernel, rfl, by decide +kernel, by decide +kernel⟩
abbrev s_Turned_inner : Stmt := inClass (top 25) 1
theorem sc_Turned_inner : FnScope ["self"] ["self"] (defScope s_Turned_inner) := ⟨rfl, rfl, rfl, by decide +kernel, rfl, by decide +kernel, by decide +kernel⟩
abbrev s_Group_inner : Stmt := inClass (top 26) 1
theorem sc_Group_inner : FnScope ["self"] ["self"] (defScope s_Group_inner) := ⟨rfl, rfl, rfl, by decide +kernel, rfl, by decide +kernel, by decide +kernel⟩
abbrev s_Part_size : Stmt := inClass (top 22) 4
theorem sc_Part_size : FnScope ["self", "part"] ["self"] (defScope s_Part_size) := ⟨rfl, rfl, rfl, by decide +kernel, rfl, by decide +kernel, by decide +kernel⟩
abbrev s_Part_depth : Stmt := inClass (top 22) 5
theorem sc_Part_depth : FnScope ["self", "part"] ["self"] (defScope s_Part_depth) := ⟨rfl, rfl, rfl, by decide +kernel, rfl, by decide +kernel, by decide +kernel⟩
abbrev s_Part_bounded : Stmt := inClass (top 22) 8
theorem sc_Part_bounded : FnScope ["self"] ["self"] (defScope s_Part_bounded) := ⟨rfl, rfl, rfl, by decide +kernel, rfl, by decide +kernel, by decide +kernel⟩
structure TParts (K : PySem.W.Frag) (mg : Str → Option Value) (cl : Cl) : Prop where
  c_Fixed : ClsAt K mg "Fixed" cl.fx
  c_Contact : ClsAt K mg "Contact" cl.ct
  c_Turned : ClsAt K mg "Turned" cl.tn
  c_Series : ClsAt K mg "Series" cl.sr
  c_Branch : ClsAt K mg "Branch" cl.br
  nd : [cl.fx, cl.ct, cl.tn, cl.sr, cl.br].Nodup
  nv_fx : NoAttr K cl.fx "value"
  nn_ct : NoAttr K cl.ct "name"
  np_tn : NoAttr K cl.tn "part"
  np_sr : NoAttr K cl.sr "parts"
  np_br : NoAttr K cl.br "parts"
  m_inner_fx : MethAt K cl.fx "inner" "Part.inner" s_Part_inner ["self"]
  m_inner_ct : MethAt K cl.ct "inner" "Part.inner" s_Part_inner ["self"]
  m_inner_tn : MethAt K cl.tn "inner" "Turned.inner" s_Turned_inner ["self"]
  m_inner_sr : MethAt K cl.sr "inner" "Group.inner" s_Group_inner ["self"]
  m_inner_br : MethAt K cl.br "inner" "Group.inner" s_Group_inner ["self"]
  m_size_fx : MethAt K cl.fx "size" "Part.size" s_Part_size ["self"]
  m_size_ct : MethAt K cl.ct "size" "Part.size" s_Part_size ["self"]
  m_size_tn : MethAt K cl.tn "size" "Part.size" s_Part_size ["self"]
  m_size_sr : MethAt K cl.sr "size" "Part.size" s_Part_size ["self"]
  m_size_br : MethAt K cl.br "size" "Part.size" s_Part_size ["self"]
  m_depth_fx : MethAt K cl.fx "depth" "Part.depth" s_Part_depth ["self"]
  m_depth_ct : MethAt K cl.ct "depth" "Part.depth" s_Part_depth ["self"]
  m_depth_tn : MethAt K cl.tn "depth" "Part.depth" s_Part_depth ["self"]
  m_depth_sr : MethAt K cl.sr "depth" "Part.depth" s_Part_depth ["self"]
  m_depth_br : MethAt K cl.br "depth" "Part.depth" s_Part_depth ["self"]
  m_bounded_tn : MethAt K cl.tn "bounded" "Part.bounded" s_Part_bounded ["self"]
  m_bounded_sr : MethAt K cl.sr "bounded" "Part.bounded" s_Part_bounded ["self"]
  m_bounded_br : MethAt K cl.br "bounded" "Part.bounded" s_Part_bounded ["self"]
  z_sum : mg "sum" = none
  z_max : mg "max" = none
  z_tuple : mg "tuple" = none
  g_MOST_SIZE : GlobC mg "MOST_SIZE" (.int 60)
  g_MOST_DEEP : GlobC mg "MOST_DEEP" (.int 20)
section
variable {P : Program} {w : World} {K : PySem.W.Frag} {mg : Str → Option Value} {base : Heap} {cl : Cl}
theorem TParts.gr (T : TParts K mg cl) (s : Bool) : ∃ x, ClsAt K mg x (cl.gr s) := by
  cases s
  · exact ⟨_, T.c_Branch⟩
  · exact ⟨_, T.c_Series⟩
theorem TParts.np (T : TParts K mg cl) (s : Bool) : NoAttr K (cl.gr s) "parts" := by
  cases s
  · exact T.np_br
  · exact T.np_sr
theorem TParts.cls (T : TParts K mg cl) {C : Addr} (h : cl.has C) : Cls K C := by
  rcases h with rfl | rfl | rfl | rfl | rfl
  · exact T.c_Fixed.cl
  · exact T.c_Contact.cl
  · exact T.c_Turned.cl
  · exact T.c_Series.cl
  · exact T.c_Branch.cl
/-- by the class, what stands there -/
theorem inv_fx (nd : [cl.fx, cl.ct, cl.tn, cl.sr, cl.br].Nodup) {H : Hp} {a dx : Addr} {fs : List (Str × V)} {c : Cond} (h : H a = some (.ins cl.fx dx fs)) (p : IsP cl H (.ref a) c) : ∃ b, c = .fixed b ∧ fs = ([("value", .bl b)] : List (Str × V)) := by
  simp only [List.nodup_cons, List.mem_cons, List.not_mem_nil, or_false, not_or] at nd
  cases p with
  | fixed q => rw [q] at h; cases h; exact ⟨_, rfl, rfl⟩
  | contact q => rw [q] at h; injection h with h; injection h with h; exact absurd h.symm nd.1.1
  | not q _ => rw [q] at h; injection h with h; injection h with h; exact absurd h.symm nd.1.2.1
  | @grp _ _ _ _ s _ q _ _ =>
    rw [q] at h; injection h with h; injection h with h
    cases s
    · exact absurd h.symm nd.1.2.2.2
    · exact absurd h.symm nd.1.2.2.1
theorem inv_ct (nd : [cl.fx, cl.ct, cl.tn, cl.sr, cl.br].Nodup) {H : Hp} {a dx : Addr} {fs : List (Str × V)} {c : Cond} (h : H a = some (.ins cl.ct dx fs)) (p : IsP cl H (.ref a) c) : ∃ n, c = .contact n ∧ fs = ([("name", .str n)] : List (Str × V)) := by
  simp only [List.nodup_cons, List.mem_cons, List.not_mem_nil, or_false, not_or] at nd
  cases p with
  | fixed q => rw [q] at h; injection h with h; injection h with h; exact absurd h nd.1.1
  | contact q => rw [q] at h; cases h; exact ⟨_, rfl, rfl⟩
  | not q _ => rw [q] at h; injection h with h; injection h with h; exact absurd h.symm nd.2.1.1
  | @grp _ _ _ _ s _ q _ _ =>
    rw [q] at h; injection h with h; injection h with h
    cases s
    · exact absurd h.symm nd.2.1.2.2
    · exact absurd h.symm nd.2.1.2.1
theorem inv_tn (nd : [cl.fx, cl.ct, cl.tn, cl.sr, cl.br].Nodup) {H : Hp} {a dx : Addr} {fs : List (Str × V)} {c : Cond} (h : H a = some (.ins cl.tn dx fs)) (p : IsP cl H (.ref a) c) : ∃ v c', c = .not c' ∧ fs = ([("part", v)] : List (Str × V)) ∧ IsP cl H v c' := by
  simp only [List.nodup_cons, List.mem_cons, List.not_mem_nil, or_false, not_or] at nd
  cases p with
  | fixed q => rw [q] at h; injection h with h; injection h with h; exact absurd h nd.1.2.1
  | contact q => rw [q] at h; injection h with h; injection h with h; exact absurd h nd.2.1.1
  | not q p => rw [q] at h; cases h; exact ⟨_, _, rfl, rfl, p⟩
  | @grp _ _ _ _ s _ q _ _ =>
    rw [q] at h; injection h with h; injection h with h
    cases s
    · exact absurd h.symm nd.2.2.1.2
    · exact absurd h.symm nd.2.2.1.1
theorem inv_gr (nd : [cl.fx, cl.ct, cl.tn, cl.sr, cl.br].Nodup) {H : Hp} {a dx C : Addr} {fs : List (Str × V)} {c : Cond} {s : Bool} (hC : C = cl.gr s) (h : H a = some (.ins C dx fs)) (p : IsP cl H (.ref a) c) :
    ∃ t vs cs, c = .grp s cs ∧ fs = ([("parts", .ref t)] : List (Str × V)) ∧ H t = some (.tup vs) ∧ IsPs cl H vs cs := by
  subst hC
  simp only [List.nodup_cons, List.mem_cons, List.not_mem_nil, or_false, not_or] at nd
  cases p with
  | fixed q =>
    rw [q] at h; injection h with h; injection h with h
    cases s
    · exact absurd h nd.1.2.2.2
    · exact absurd h nd.1.2.2.1
  | contact q =>
    rw [q] at h; injection h with h; injection h with h
    cases s
    · exact absurd h nd.2.1.2.2
    · exact absurd h nd.2.1.2.1
  | not q _ =>
    rw [q] at h; injection h with h; injection h with h
    cases s
    · exact absurd h nd.2.2.1.2
    · exact absurd h nd.2.2.1.1
  | @grp _ _ t vs s' cs q ht p =>
    rw [q] at h; injection h with h; injection h with h1 h2 h3
    have e : s' = s := by
      cases s <;> cases s'
      · rfl
      · exact absurd h1 nd.2.2.2.1
      · exact absurd h1.symm nd.2.2.2.1
      · rfl
    subst e
    exact ⟨t, vs, cs, rfl, h3.symm, ht, p⟩
theorem sum_cast : ∀ l : List Cond, (l.map fun c => (c.size : Int)).sum = (((l.map Cond.size).sum : Nat) : Int)
  | [] => rfl
  | c :: l => by
    rw [List.map_cons, List.sum_cons, sum_cast l, List.map_cons, List.sum_cons]
    omega
/-! ### inner -/
def spInner (cl : Cl) (C : Addr) : Sp := fun vs H Q _ => ∃ (a dx : Addr) (fs : List (Str × V)) (c : Cond), vs = [.ref a] ∧ H a = some (.ins C dx fs) ∧ IsP cl H (.ref a) c ∧
  ∀ (H' : Hp) (t : Addr) (ws : List V), Same H H' → H' t = some (.tup ws) → IsPs cl H' ws c.kids → Q (.ref t) H'
theorem ok_inner0 (T : TParts K mg cl) {C : Addr} (hC : C = cl.fx ∨ C = cl.ct) (D : MethAt K C "inner" "Part.inner" s_Part_inner ["self"]) :
    ∃ f fd, Cls K C ∧ Meth K C "inner" f ∧ Binds K fd ["self"] [] ∧ FnOk P w K mg base CX0 1 f fd ["self"] (spInner cl C) := by
  refine methAt_ok (T.cls (by rcases hC with rfl | rfl; exact .inl rfl; exact .inr (.inl rfl))) D sc_Part_inner (fun vs H Q E h => ?_) (fun f cdv A outer s H vs Q E hr h => ?_)
  · obtain ⟨a, dx, fs, c, rfl, _⟩ := h; rfl
  · obtain ⟨a, dx, fs, c, rfl, ha, p, k⟩ := h
    refine ⟨_, (pss_one (ps_ret (pe_tup pa_nil))), ?_⟩
    refine ⟨Nat.zero_le _, fun q nq => k _ q [] (Same.new nq) upd_same ?_⟩
    have e : c.kids = [] := by
      rcases hC with rfl | rfl
      · obtain ⟨b, rfl, _⟩ := inv_fx T.nd ha p; rfl
      · obtain ⟨b, rfl, _⟩ := inv_ct T.nd ha p; rfl
    rw [e]
    exact .nil
theorem ok_inner1 (T : TParts K mg cl) (D : MethAt K cl.tn "inner" "Turned.inner" s_Turned_inner ["self"]) :
    ∃ f fd, Cls K cl.tn ∧ Meth K cl.tn "inner" f ∧ Binds K fd ["self"] [] ∧ FnOk P w K mg base CX0 1 f fd ["self"] (spInner cl cl.tn) := by
  refine methAt_ok T.c_Turned.cl D sc_Turned_inner (fun vs H Q E h => ?_) (fun f cdv A outer s H vs Q E hr h => ?_)
  · obtain ⟨a, dx, fs, c, rfl, _⟩ := h; rfl
  · obtain ⟨a, dx, fs, c, rfl, ha, p, k⟩ := h
    obtain ⟨v, c', rfl, rfl, p'⟩ := inv_tn T.nd ha p
    refine ⟨_, (pss_one (ps_ret (pe_tup (pa_cons (pe_fld (pv 0) rfl) pa_nil)))), ?_⟩
    refine ⟨_, rfl, a, _, dx, _, v, rfl, ha, T.c_Turned.cl, T.np_tn, lk1s, line_ge (by simp), fun q nq => ?_⟩
    exact k _ q [v] (Same.new nq) upd_same (.cons (p'.mono (Imm.new nq)) .nil)
theorem ok_inner2 (T : TParts K mg cl) (s : Bool) (D : MethAt K (cl.gr s) "inner" "Group.inner" s_Group_inner ["self"]) :
    ∃ f fd, Cls K (cl.gr s) ∧ Meth K (cl.gr s) "inner" f ∧ Binds K fd ["self"] [] ∧ FnOk P w K mg base CX0 1 f fd ["self"] (spInner cl (cl.gr s)) := by
  refine methAt_ok (T.cls (cl.has_gr s)) D sc_Group_inner (fun vs H Q E h => ?_) (fun f cdv A outer st H vs Q E hr h => ?_)
  · obtain ⟨a, dx, fs, c, rfl, _⟩ := h; rfl
  · obtain ⟨a, dx, fs, c, rfl, ha, p, k⟩ := h
    obtain ⟨t, ws, cs, rfl, rfl, ht, p'⟩ := inv_gr T.nd rfl ha p
    refine ⟨_, (pss_one (ps_ret (pe_fld (pv 0) rfl))), ?_⟩
    refine ⟨_, rfl, a, _, dx, _, _, rfl, ha, T.cls (cl.has_gr s), T.np s, lk1s, ?_⟩
    exact k H t ws (Same.refl _) ht p'
theorem disp_inner (T : TParts K mg cl) : DispAt P w K mg base CX0 cl.has "inner" 1 ["self"] (spInner cl) := by
  refine ⟨fun C hC => ?_⟩
  rcases hC with rfl | rfl | rfl | rfl | rfl
  · exact ok_inner0 T (.inl rfl) T.m_inner_fx
  · exact ok_inner0 T (.inr rfl) T.m_inner_ct
  · exact ok_inner1 T T.m_inner_tn
  · exact ok_inner2 T true T.m_inner_sr
  · exact ok_inner2 T false T.m_inner_br
/-! ### size -/
def spSize (cl : Cl) (n : Nat) (C : Addr) : Sp := fun vs H Q _ => ∃ (a dx : Addr) (fs : List (Str × V)) (c : Cond), vs = [.ref a] ∧ H a = some (.ins C dx fs) ∧ IsP cl H (.ref a) c ∧ c.depth ≤ n ∧ c.size ≤ 1000 ∧
  ∀ (H' : Hp), Same H H' → Q (.int c.size) H'
theorem ok_size (T : TParts K mg cl) {n k : Nat} (G_size : DispAt P w K mg base CX0 cl.has "size" k ["self"] (spSize cl n)) (hk : 1 ≤ k) {C : Addr} (hC : cl.has C) (D : MethAt K C "size" "Part.size" s_Part_size ["self"]) :
    ∃ f fd, Cls K C ∧ Meth K C "size" f ∧ Binds K fd ["self"] [] ∧ FnOk P w K mg base CX0 (k + 1) f fd ["self"] (spSize cl (n + 1) C) := by
  have G_inner : DispAt P w K mg base CX0 cl.has "inner" 1 ["self"] (spInner cl) := disp_inner T
  refine methAt_ok (T.cls hC) D sc_Part_size (fun vs H Q E h => ?_) (fun f cdv A outer s H vs Q E hr h => ?_)
  · obtain ⟨a, dx, fs, c, rfl, _⟩ := h; rfl
  · obtain ⟨a, dx, fs, c, rfl, ha, p, hd, hz, q⟩ := h
    refine ⟨_, (pss_one (ps_ret (pe_op op_add pe_int (pe_callB (cr_sum rfl) (by rfl) T.z_sum (by decide +kernel) (pa_cons (pe_lc (own := [("part", 1)]) (g := gName 1) (tt := tYes) rfl sc_Part_size.nd (pi_tup (pe_methD0 G_inner hr pass0 (pv 0) hk)) (blkOk_by (own := [("part", 1)]) (N := ["self", "part"]) (sc := defScope s_Part_size) (by decide +kernel)) (fun _ _ _ _ _ => pg_name (i := 1) sc_Part_size.nd rfl (Or.inl rfl)) (fun _ _ _ _ _ => pts_nil) (fun _ _ _ _ _ => (pe_methD0 G_size hr pass0 (pv 1) (Nat.le_refl _)))) pa_nil))))), ?_⟩
    refine ⟨_, rfl, a, C, dx, fs, rfl, ha, hC, look_of (by decide +kernel) ha p, a, dx, fs, c, rfl, ha, p, fun H1 t ws s1 ht ps => ?_⟩
    have hlen := ps.length
    have hz2 : c.kids.length ≤ 1000 := by
      have h1 := Cond.len_sizes c.kids
      have h2 := c.size_kids
      omega
    refine ⟨t, rfl, ⟨_, SqT.of ht⟩, fun D nD => lc_tup (K := K) (a := t) (xs := ws) (fun i H' => Same H1 H' ∧ H' D = some (.lst ((c.kids.map fun c => V.int c.size).take i)))
      ⟨Same.new nD, upd_same⟩ (fun i H' _ q => SqT.of (q.1 _ _ ht)) ?_ ?_⟩
    · rintro i y H2 hy ⟨q1, q2⟩
      obtain ⟨c', hc', p'⟩ := (ps.mono (Same.imm q1)).at hy
      obtain ⟨a', C', dx', fs', rfl, ha', hC', hl'⟩ := meth_of (m := "size") (by decide +kernel) p'
      have hm := List.mem_of_getElem? hc'
      have h1 := Cond.depth_mem hm
      have h2 := Cond.size_mem hm
      have h3 := c.depth_kids
      have h4 := c.size_kids
      refine ⟨rfl, _, rfl, a', C', dx', fs', rfl, ha', hC', hl', a', dx', fs', c', rfl, ha', p', by omega, by omega, fun H3 s3 => ?_⟩
      exact lc_push (q1.trans s3) nD (s3 _ _ q2) (by rw [List.getElem?_map, hc']; rfl) (by rw [List.length_map]; omega)
    · rintro H2 ⟨q1, q2⟩
      rw [hlen, List.take_of_length_le (by simp)] at q2
      refine ⟨D, c.kids.map fun c => (c.size : Int), rfl, SqL.of ?_, _, _, rfl, rfl, ?_⟩
      · rw [q2, List.map_map]
        rfl
      · have e : (1 : Int) + (c.kids.map fun c => (c.size : Int)).sum = (c.size : Int) := by
          rw [sum_cast, Cond.size_kids, Cond.sizes_sum]
          omega
        show Q (V.int (1 + _)) _
        rw [e]
        exact q _ (s1.trans q1)
theorem disp_size (T : TParts K mg cl) : ∀ n : Nat, DispAt P w K mg base CX0 cl.has "size" (n + 1) ["self"] (spSize cl n)
  | 0 => by
    refine ⟨fun C hC => ?_⟩
    obtain ⟨f, fd, h1, h2, h3, h4⟩ := (disp_inner (P := P) (w := w) (base := base) T).ex C hC
    have D : MethAt K C "size" "Part.size" s_Part_size ["self"] := by
      rcases hC with rfl | rfl | rfl | rfl | rfl
      · exact T.m_size_fx
      · exact T.m_size_ct
      · exact T.m_size_tn
      · exact T.m_size_sr
      · exact T.m_size_br
    refine methAt_ok (T.cls hC) D sc_Part_size (fun vs H Q E h => ?_) (fun f cdv A outer s H vs Q E hr h => ?_)
    · obtain ⟨a, dx, fs, c, rfl, _⟩ := h; rfl
    · obtain ⟨a, dx, fs, c, rfl, ha, p, hd, _⟩ := h
      exact absurd c.depth_pos (by omega)
  | n + 1 => by
    refine ⟨fun C hC => ?_⟩
    have D : MethAt K C "size" "Part.size" s_Part_size ["self"] := by
      rcases hC with rfl | rfl | rfl | rfl | rfl
      · exact T.m_size_fx
      · exact T.m_size_ct
      · exact T.m_size_tn
      · exact T.m_size_sr
      · exact T.m_size_br
    exact ok_size T (disp_size T n) (by omega) hC D
/-! ### depth -/
def spDepth (cl : Cl) (n : Nat) (C : Addr) : Sp := fun vs H Q _ => ∃ (a dx : Addr) (fs : List (Str × V)) (c : Cond), vs = [.ref a] ∧ H a = some (.ins C dx fs) ∧ IsP cl H (.ref a) c ∧ c.depth ≤ n ∧ c.size ≤ 1000 ∧
  ∀ (H' : Hp), Same H H' → Q (.int c.depth) H'
theorem max_depths : ∀ (cs : List Cond) (m : Int), m ∈ (0 : Int) :: cs.map (fun c => (c.depth : Int)) → (∀ y, y ∈ (0 : Int) :: cs.map (fun c => (c.depth : Int)) → y ≤ m) → m = (Cond.depths cs : Int) := by
  have le : ∀ (cs : List Cond), ∃ y, y ∈ (0 : Int) :: cs.map (fun c => (c.depth : Int)) ∧ (Cond.depths cs : Int) ≤ y := by
    intro cs
    induction cs with
    | nil => exact ⟨0, List.mem_cons_self, by simp [Cond.depths]⟩
    | cons c cs ih =>
      obtain ⟨y, hy, hl⟩ := ih
      by_cases h : Cond.depths cs ≤ c.depth
      · exact ⟨c.depth, by simp, by rw [Cond.depths]; omega⟩
      · refine ⟨y, ?_, by rw [Cond.depths]; omega⟩
        rcases List.mem_cons.mp hy with rfl | hy
        · exact List.mem_cons_self
        · exact List.mem_cons_of_mem _ (List.mem_cons_of_mem _ hy)
  intro cs m hm hle
  obtain ⟨y, hy, hl⟩ := le cs
  have h1 := hle y hy
  have h2 : m ≤ (Cond.depths cs : Int) := by
    rcases List.mem_cons.mp hm with rfl | hm
    · omega
    · obtain ⟨c, hc, rfl⟩ := List.mem_map.mp hm
      have := Cond.depth_mem hc
      omega
  omega
theorem ok_depth (T : TParts K mg cl) {n k : Nat} (G_depth : DispAt P w K mg base CX0 cl.has "depth" k ["self"] (spDepth cl n)) (hk : 1 ≤ k) {C : Addr} (hC : cl.has C) (D : MethAt K C "depth" "Part.depth" s_Part_depth ["self"]) :
    ∃ f fd, Cls K C ∧ Meth K C "depth" f ∧ Binds K fd ["self"] [] ∧ FnOk P w K mg base CX0 (k + 1) f fd ["self"] (spDepth cl (n + 1) C) := by
  have G_inner : DispAt P w K mg base CX0 cl.has "inner" 1 ["self"] (spInner cl) := disp_inner T
  refine methAt_ok (T.cls hC) D sc_Part_depth (fun vs H Q E h => ?_) (fun f cdv A outer s H vs Q E hr h => ?_)
  · obtain ⟨a, dx, fs, c, rfl, _⟩ := h; rfl
  · obtain ⟨a, dx, fs, c, rfl, ha, p, hd, hz, q⟩ := h
    refine ⟨_, (pss_one (ps_ret (pe_op op_add pe_int (pe_callB (cr_max rfl) (by rfl) T.z_max (by decide +kernel) (pa_cons (pe_op op_cat (pe_lst (pa_cons pe_int pa_nil)) (pe_lc (own := [("part", 1)]) (g := gName 1) (tt := tYes) rfl sc_Part_depth.nd (pi_tup (pe_methD0 G_inner hr pass0 (pv 0) hk)) (blkOk_by (own := [("part", 1)]) (N := ["self", "part"]) (sc := defScope s_Part_depth) (by decide +kernel)) (fun _ _ _ _ _ => pg_name (i := 1) sc_Part_depth.nd rfl (Or.inl rfl)) (fun _ _ _ _ _ => pts_nil) (fun _ _ _ _ _ => (pe_methD0 G_depth hr pass0 (pv 1) (Nat.le_refl _))))) pa_nil))))), ?_⟩
    have hz2 : c.kids.length ≤ 1000 := by
      have h1 := Cond.len_sizes c.kids
      have h2 := c.size_kids
      omega
    refine ⟨line_ge (by decide), fun z nz => ?_⟩
    have ha0 : upd H z (.lst [.int 0]) a = some (.ins C dx fs) := Same.new nz _ _ ha
    have p0 : IsP cl (upd H z (.lst [.int 0])) (.ref a) c := p.mono (Imm.new nz)
    refine ⟨_, rfl, a, C, dx, fs, rfl, ha0, hC, look_of (by decide +kernel) ha p, a, dx, fs, c, rfl, ha0, p0, fun H1 t ws s1 ht ps => ?_⟩
    have hlen := ps.length
    refine ⟨t, rfl, ⟨_, SqT.of ht⟩, fun D nD => lc_tup (K := K) (a := t) (xs := ws) (fun i H' => Same H1 H' ∧ H' D = some (.lst ((c.kids.map fun c => V.int c.depth).take i)))
      ⟨Same.new nD, upd_same⟩ (fun i H' _ q => SqT.of (q.1 _ _ ht)) ?_ ?_⟩
    · rintro i y H2 hy ⟨q1, q2⟩
      obtain ⟨c', hc', p'⟩ := (ps.mono (Same.imm q1)).at hy
      obtain ⟨a', C', dx', fs', rfl, ha', hC', hl'⟩ := meth_of (m := "depth") (by decide +kernel) p'
      have hm := List.mem_of_getElem? hc'
      have h1 := Cond.depth_mem hm
      have h2 := Cond.size_mem hm
      have h3 := c.depth_kids
      have h4 := c.size_kids
      refine ⟨rfl, _, rfl, a', C', dx', fs', rfl, ha', hC', hl', a', dx', fs', c', rfl, ha', p', by omega, by omega, fun H3 s3 => ?_⟩
      exact lc_push (q1.trans s3) nD (s3 _ _ q2) (by rw [List.getElem?_map, hc']; rfl) (by rw [List.length_map]; omega)
    · rintro H2 ⟨q1, q2⟩
      rw [hlen, List.take_of_length_le (by simp)] at q2
      refine ⟨z, D, [.int 0], _, rfl, rfl, q1 _ _ (s1 _ _ upd_same), q2, line_ge (by simp; omega), fun y ny => ?_⟩
      refine ⟨y, (0 : Int) :: c.kids.map (fun c => (c.depth : Int)), rfl, SqL.of ?_, by simp, fun m hm hle => ?_⟩
      · rw [upd_same]
        simp [List.map_map, Function.comp_def]
      · have e := max_depths c.kids m hm hle
        refine ⟨_, _, rfl, rfl, ?_⟩
        have e2 : (1 : Int) + m = (c.depth : Int) := by
          rw [e, Cond.depth_kids]
          omega
        show Q (V.int (1 + m)) _
        rw [e2]
        exact q _ (((Same.new nz).trans (s1.trans q1)).trans (Same.new ny))
theorem disp_depth (T : TParts K mg cl) : ∀ n : Nat, DispAt P w K mg base CX0 cl.has "depth" (n + 1) ["self"] (spDepth cl n)
  | 0 => by
    refine ⟨fun C hC => ?_⟩
    have D : MethAt K C "depth" "Part.depth" s_Part_depth ["self"] := by
      rcases hC with rfl | rfl | rfl | rfl | rfl
      · exact T.m_depth_fx
      · exact T.m_depth_ct
      · exact T.m_depth_tn
      · exact T.m_depth_sr
      · exact T.m_depth_br
    refine methAt_ok (T.cls hC) D sc_Part_depth (fun vs H Q E h => ?_) (fun f cdv A outer s H vs Q E hr h => ?_)
    · obtain ⟨a, dx, fs, c, rfl, _⟩ := h; rfl
    · obtain ⟨a, dx, fs, c, rfl, ha, p, hd, _⟩ := h
      exact absurd c.depth_pos (by omega)
  | n + 1 => by
    refine ⟨fun C hC => ?_⟩
    have D : MethAt K C "depth" "Part.depth" s_Part_depth ["self"] := by
      rcases hC with rfl | rfl | rfl | rfl | rfl
      · exact T.m_depth_fx
      · exact T.m_depth_ct
      · exact T.m_depth_tn
      · exact T.m_depth_sr
      · exact T.m_depth_br
    exact ok_depth T (disp_depth T n) (by omega) hC D
/-! ### bounded: what is within the limits is let by -/
def spBounded (cl : Cl) (C : Addr) : Sp := fun vs H Q _ => ∃ (a dx : Addr) (fs : List (Str × V)) (c : Cond), vs = [.ref a] ∧ H a = some (.ins C dx fs) ∧ IsP cl H (.ref a) c ∧ c.depth ≤ 20 ∧ c.size ≤ 60 ∧
  ∀ (H' : Hp), Same H H' → Q .non H'
theorem disp_bounded (T : TParts K mg cl) : DispAt P w K mg base CX0 (fun C => C = cl.tn ∨ C = cl.sr ∨ C = cl.br) "bounded" 22 ["self"] (spBounded cl) := by
  have G_size : DispAt P w K mg base CX0 cl.has "size" 21 ["self"] (spSize cl 20) := disp_size T 20
  have G_depth : DispAt P w K mg base CX0 cl.has "depth" 21 ["self"] (spDepth cl 20) := disp_depth T 20
  refine ⟨fun C hC => ?_⟩
  have hC' : cl.has C := by
    rcases hC with rfl | rfl | rfl
    · exact .inr (.inr (.inl rfl))
    · exact .inr (.inr (.inr (.inl rfl)))
    · exact .inr (.inr (.inr (.inr rfl)))
  have D : MethAt K C "bounded" "Part.bounded" s_Part_bounded ["self"] := by
    rcases hC with rfl | rfl | rfl
    · exact T.m_bounded_tn
    · exact T.m_bounded_sr
    · exact T.m_bounded_br
  refine methAt_ok (T.cls hC') D sc_Part_bounded (fun vs H Q E h => ?_) (fun f cdv A outer s H vs Q E hr h => ?_)
  · obtain ⟨a, dx, fs, c, rfl, _⟩ := h; rfl
  · obtain ⟨a, dx, fs, c, rfl, ha, p, hd, hz, q⟩ := h
    refine ⟨_, (pss_one (ps_if (PW.pt (pw_or (pt_cmpR op_gt (pe_methD0 G_size hr pass0 (pv 0)) (pe_gc T.g_MOST_SIZE) (nomark _)) (pw_or1 (pt_cmpR op_gt (pe_methD0 G_depth hr pass0 (pv 0)) (pe_gc T.g_MOST_DEEP) (nomark _))))) (pss_one ps_never) pss_nil)), ?_⟩
    refine ⟨_, rfl, a, C, dx, fs, rfl, ha, hC', look_of (by decide +kernel) ha p, a, dx, fs, c, rfl, ha, p, hd, by omega, fun H1 s1 => ?_⟩
    refine ⟨_, _, rfl, rfl, _, rfl, ?_⟩
    rw [decide_eq_false (show ¬ (60 : Int) < (c.size : Int) by omega)]
    have ha1 := s1 _ _ ha
    have p1 := p.mono (Same.imm (T := cl.has) s1)
    refine iteF ⟨_, rfl, a, C, dx, fs, rfl, ha1, hC', look_of (by decide +kernel) ha p, a, dx, fs, c, rfl, ha1, p1, hd, by omega, fun H2 s2 => ?_⟩
    refine ⟨_, _, rfl, rfl, _, rfl, ?_⟩
    rw [decide_eq_false (show ¬ (20 : Int) < (c.depth : Int) by omega)]
    exact iteF (q _ (s1.trans s2))
end

/-! ## parts: made -/
abbrev s_Fixed___init__ : Stmt := inClass (top 23) 0
theorem sc_Fixed___init__ : FnScope ["self", "value"] ["self", "value"] (defScope s_Fixed___init__) := ⟨rfl, rfl, rfl, by decide +kernel, rfl, by decide +kernel, by decide +kernel⟩
abbrev s_Contact___init__ : Stmt := inClass (top 24) 0
theorem sc_Contact___init__ : FnScope ["self", "name"] ["self", "name"] (defScope s_Contact___init__) := ⟨rfl, rfl, rfl, by decide +kernel, rfl, by decide +kernel, by decide +kernel⟩
abbrev s_Turned___init__ : Stmt := inClass (top 25) 0
theorem sc_Turned___init__ : FnScope ["self", "part"] ["self", "part"] (defScope s_Turned___init__) := ⟨rfl, rfl, rfl, by decide +kernel, rfl, by decide +kernel, by decide +kernel⟩
abbrev s_Group___init__ : Stmt := inClass (top 26) 0
theorem sc_Group___init__ : FnScope ["self", "parts"] ["self", "parts"] (defScope s_Group___init__) := ⟨rfl, rfl, rfl, by decide +kernel, rfl, by decide +kernel, by decide +kernel⟩
structure TMake (K : PySem.W.Frag) (mg : Str → Option Value) (cl : Cl) : Prop where
  names : TNames K mg
  parts : TParts K mg cl
  i_fx : MethAt K cl.fx "__init__" "Fixed.__init__" s_Fixed___init__ ["self", "value"]
  i_ct : MethAt K cl.ct "__init__" "Contact.__init__" s_Contact___init__ ["self", "name"]
  i_tn : MethAt K cl.tn "__init__" "Turned.__init__" s_Turned___init__ ["self", "part"]
  i_sr : MethAt K cl.sr "__init__" "Group.__init__" s_Group___init__ ["self", "parts"]
  i_br : MethAt K cl.br "__init__" "Group.__init__" s_Group___init__ ["self", "parts"]
  z_len : mg "len" = none
  z_tuple : mg "tuple" = none
section
variable {P : Program} {w : World} {K : PySem.W.Frag} {mg : Str → Option Value} {base : Heap} {cl : Cl}
/-- a new instance and its dict: what was tracked stays -/
theorem same_make {H : Hp} {x dx C : Addr} {fs : List (Str × V)} (nx : H x = none) (nd : H dx = none) : Same H (upd (upd H dx (.own x)) x (.ins C dx fs)) := fun b o e => by
  rw [upd_ne (ne_of_none e nx), upd_ne (ne_of_none e nd)]
  exact e
def spInitFx (cl : Cl) : Sp := fun vs H Q _ => ∃ (x dx : Addr) (b : Bool), vs = [.ref x, .bl b] ∧ H x = some (.ins cl.fx dx []) ∧ ∀ H' : Hp, H' x = some (.ins cl.fx dx [("value", .bl b)]) → But x H H' → Q .non H'
def spInitCt (cl : Cl) : Sp := fun vs H Q _ => ∃ (x dx : Addr) (n : Str), vs = [.ref x, .str n] ∧ H x = some (.ins cl.ct dx []) ∧ n.length ≤ sizeLine ∧ isName n = true ∧ ∀ H' : Hp, H' x = some (.ins cl.ct dx [("name", .str n)]) → But x H H' → Q .non H'
def spInitTn (cl : Cl) : Sp := fun vs H Q _ => ∃ (H0 : Hp) (x dx : Addr) (v : V) (c : Cond), vs = [.ref x, v] ∧ H x = some (.ins cl.tn dx []) ∧ Same H0 H ∧ H0 x = none ∧ IsP cl H0 v c ∧ c.size ≤ 59 ∧ c.depth ≤ 19 ∧
  ∀ H' : Hp, Same H0 H' → IsP cl H' (.ref x) (.not c) → Q .non H'
def spInitGr (cl : Cl) (s : Bool) : Sp := fun vs H Q _ => ∃ (H0 : Hp) (x dx l : Addr) (ws : List V) (cs : List Cond), vs = [.ref x, .ref l] ∧ H x = some (.ins (cl.gr s) dx []) ∧ Same H0 H ∧ H0 x = none ∧ H0 l = some (.lst ws) ∧ IsPs cl H0 ws cs ∧ 2 ≤ cs.length ∧ Cond.sizes cs ≤ 59 ∧ Cond.depths cs ≤ 19 ∧
  ∀ H' : Hp, Same H0 H' → IsP cl H' (.ref x) (.grp s cs) → Q .non H'
theorem ok_init_fx (T : TMake K mg cl) : MakAt P w K mg base CX0 "Fixed" cl.fx 1 ["self", "value"] (spInitFx cl) := by
  refine makAt_of T.parts.c_Fixed (methAt_ok T.parts.c_Fixed.cl T.i_fx sc_Fixed___init__ (fun vs H Q E h => ?_) (fun f cdv A outer s H vs Q E hr h => ?_))
  · obtain ⟨x, dx, b, rfl, _⟩ := h; rfl
  · obtain ⟨x, dx, b, rfl, hx, q⟩ := h
    refine ⟨_, (pss_one (ps_fld (pv 0) (pv 1) rfl)), ?_⟩
    refine ⟨_, rfl, _, rfl, x, _, dx, [], rfl, hx, T.parts.c_Fixed.cl, T.parts.nv_fx, (by show 0 < 1000; decide), ?_⟩
    exact q _ upd_same But.upd
theorem ok_init_ct (T : TMake K mg cl) : MakAt P w K mg base CX0 "Contact" cl.ct 3 ["self", "name"] (spInitCt cl) := by
  have G_is_name : FnAt P w K mg base CX0 "is_name" 2 _ spIsName := ok_is_name T.names
  refine makAt_of T.parts.c_Contact (methAt_ok T.parts.c_Contact.cl T.i_ct sc_Contact___init__ (fun vs H Q E h => ?_) (fun f cdv A outer s H vs Q E hr h => ?_))
  · obtain ⟨x, dx, n, rfl, _⟩ := h; rfl
  · obtain ⟨x, dx, n, rfl, hx, hl, hn, q⟩ := h
    refine ⟨_, (pss_cons (ps_if (pt_not (pt_val (pe_callF G_is_name hr pass0 (pa_cons (pv 1) pa_nil)))) (pss_one ps_never) pss_nil)
        (pss_one (ps_fld (pv 0) (pv 1) rfl))), ?_⟩
    refine ⟨_, rfl, n, rfl, hl, ?_⟩
    rw [hn]
    refine ⟨true, rfl, iteF ?_⟩
    refine ⟨_, rfl, _, rfl, x, _, dx, [], rfl, hx, T.parts.c_Contact.cl, T.parts.nn_ct, (by show 0 < 1000; decide), ?_⟩
    exact q _ upd_same But.upd
theorem ok_init_tn (T : TMake K mg cl) : MakAt P w K mg base CX0 "Turned" cl.tn 23 ["self", "part"] (spInitTn cl) := by
  have G_bounded : DispAt P w K mg base CX0 (fun C => C = cl.tn ∨ C = cl.sr ∨ C = cl.br) "bounded" 22 ["self"] (spBounded cl) := disp_bounded T.parts
  refine makAt_of T.parts.c_Turned (methAt_ok T.parts.c_Turned.cl T.i_tn sc_Turned___init__ (fun vs H Q E h => ?_) (fun f cdv A outer s H vs Q E hr h => ?_))
  · obtain ⟨H0, x, dx, v, c, rfl, _⟩ := h; rfl
  · obtain ⟨H0, x, dx, v, c, rfl, hx, s0, n0, p, hz, hd, q⟩ := h
    refine ⟨_, (pss_cons (ps_fld (pv 0) (pv 1) rfl)
        (pss_one (ps_expr (pe_methD0 G_bounded hr pass0 (pv 0))))), ?_⟩
    refine ⟨_, rfl, _, rfl, x, _, dx, [], rfl, hx, T.parts.c_Turned.cl, T.parts.np_tn, (by show 0 < 1000; decide), ?_⟩
    have s1 : Same H0 (upd H x (.ins cl.tn dx (putF "part" v []))) := Same.mut s0 n0
    have p1 : IsP cl (upd H x (.ins cl.tn dx (putF "part" v []))) (.ref x) (.not c) := .not upd_same (p.mono (Same.imm s1))
    refine ⟨_, rfl, x, _, dx, _, rfl, upd_same, .inl rfl, lk1 (by decide +kernel), x, dx, _, .not c, rfl, upd_same, p1, ?_, ?_, fun H2 s2 => ?_⟩
    · rw [Cond.depth]; omega
    · rw [Cond.size]; omega
    · exact q _ (s1.trans s2) (p1.mono (Same.imm s2))
theorem ok_init_gr (T : TMake K mg cl) (s : Bool) {nm : Str} (c : ClsAt K mg nm (cl.gr s)) (D : MethAt K (cl.gr s) "__init__" "Group.__init__" s_Group___init__ ["self", "parts"]) : MakAt P w K mg base CX0 nm (cl.gr s) 23 ["self", "parts"] (spInitGr cl s) := by
  have G_bounded : DispAt P w K mg base CX0 (fun C => C = cl.tn ∨ C = cl.sr ∨ C = cl.br) "bounded" 22 ["self"] (spBounded cl) := disp_bounded T.parts
  refine makAt_of c (methAt_ok c.cl D sc_Group___init__ (fun vs H Q E h => ?_) (fun f cdv A outer st H vs Q E hr h => ?_))
  · obtain ⟨H0, x, dx, l, ws, cs, rfl, _⟩ := h; rfl
  · obtain ⟨H0, x, dx, l, ws, cs, rfl, hx, s0, n0, hl, ps, h2, hz, hd, q⟩ := h
    have hlen := ps.length
    refine ⟨_, (pss_cons (ps_if (pt_cmpR op_lt (pe_callB call_len_seq (by rfl) T.z_len PySem.boot_len (pa_cons (pv 1) pa_nil)) pe_int (nomark _)) (pss_one ps_never) pss_nil)
        (pss_cons (ps_fld (pv 0) (pe_callTy call_tuple_of (by rfl) T.z_tuple (by decide +kernel) (pa_cons (pv 1) pa_nil)) rfl)
        (pss_one (ps_expr (pe_methD0 G_bounded hr pass0 (pv 0)))))), ?_⟩
    refine ⟨_, rfl, l, ws, rfl, .inl (SqL.of (s0 _ _ hl)), _, _, rfl, rfl, _, rfl, ?_⟩
    rw [decide_eq_false (show ¬ ((ws.length : Int) < 2) by omega)]
    refine iteF ⟨_, rfl, l, ws, rfl, .inl ⟨SqL.of (s0 _ _ hl), fun t nt => ?_⟩⟩
    have hx1 : upd H t (.tup ws) x = some (.ins (cl.gr s) dx []) := Same.new nt _ _ hx
    have ntx : t ≠ x := (ne_of_none hx nt).symm
    refine ⟨_, rfl, x, _, dx, [], rfl, hx1, T.parts.cls (cl.has_gr s), T.parts.np s, (by show 0 < 1000; decide), ?_⟩
    have s1 : Same H0 (upd (upd H t (.tup ws)) x (.ins (cl.gr s) dx (putF "parts" (.ref t) []))) := Same.mut (s0.trans (Same.new nt)) n0
    have p1 : IsP cl (upd (upd H t (.tup ws)) x (.ins (cl.gr s) dx (putF "parts" (.ref t) []))) (.ref x) (.grp s cs) := .grp upd_same (by rw [upd_ne ntx, upd_same]) (ps.mono (Same.imm s1))
    refine ⟨_, rfl, x, _, dx, _, rfl, upd_same, (by cases s; exact .inr (.inr rfl); exact .inr (.inl rfl)), lk1 (by decide +kernel), x, dx, _, .grp s cs, rfl, upd_same, p1, ?_, ?_, fun H2 s2 => ?_⟩
    · rw [Cond.depth]; omega
    · rw [Cond.size]; omega
    · exact q _ (s1.trans s2) (p1.mono (Same.imm s2))
/-! ### what making asks -/
theorem mk_fx {H : Hp} {b : Bool} {Q : VK} {E : XK} (k : ∀ H' x, Same H H' → IsP cl H' (.ref x) (.fixed b) → Q (.ref x) H') : ∀ x dx, H x = none → H dx = none → dx ≠ x → spInitFx cl (.ref x :: ([.bl b] ++ [])) (upd (upd H dx (.own x)) x (.ins cl.fx dx [])) (fun v H' => v = .non ∧ Q (.ref x) H') E :=
  fun x dx nx nd ne => ⟨x, dx, b, rfl, upd_same, fun H' h1 h2 => ⟨rfl, k H' x (fun c o e => h2 c o (same_make nx nd c o e) (ne_of_none e nx)) (.fixed h1)⟩⟩
theorem mk_ct {H : Hp} {n : Str} {Q : VK} {E : XK} (hl : n.length ≤ sizeLine) (hn : isName n = true) (k : ∀ H' x, Same H H' → IsP cl H' (.ref x) (.contact n) → Q (.ref x) H') : ∀ x dx, H x = none → H dx = none → dx ≠ x → spInitCt cl (.ref x :: ([.str n] ++ [])) (upd (upd H dx (.own x)) x (.ins cl.ct dx [])) (fun v H' => v = .non ∧ Q (.ref x) H') E :=
  fun x dx nx nd ne => ⟨x, dx, n, rfl, upd_same, hl, hn, fun H' h1 h2 => ⟨rfl, k H' x (fun c o e => h2 c o (same_make nx nd c o e) (ne_of_none e nx)) (.contact h1)⟩⟩
theorem mk_tn {H : Hp} {v : V} {c : Cond} {Q : VK} {E : XK} (p : IsP cl H v c) (hz : c.size ≤ 59) (hd : c.depth ≤ 19) (k : ∀ H' x, Same H H' → IsP cl H' (.ref x) (.not c) → Q (.ref x) H') : ∀ x dx, H x = none → H dx = none → dx ≠ x → spInitTn cl (.ref x :: ([v] ++ [])) (upd (upd H dx (.own x)) x (.ins cl.tn dx [])) (fun v H' => v = .non ∧ Q (.ref x) H') E :=
  fun x dx nx nd ne => ⟨H, x, dx, v, c, rfl, upd_same, same_make nx nd, nx, p, hz, hd, fun H' h1 h2 => ⟨rfl, k H' x h1 h2⟩⟩
theorem mk_gr {H : Hp} {s : Bool} {l : Addr} {ws : List V} {cs : List Cond} {Q : VK} {E : XK} (hl : H l = some (.lst ws)) (p : IsPs cl H ws cs) (h2 : 2 ≤ cs.length) (hz : Cond.sizes cs ≤ 59) (hd : Cond.depths cs ≤ 19) (k : ∀ H' x, Same H H' → IsP cl H' (.ref x) (.grp s cs) → Q (.ref x) H') :
    ∀ x dx, H x = none → H dx = none → dx ≠ x → spInitGr cl s (.ref x :: ([.ref l] ++ [])) (upd (upd H dx (.own x)) x (.ins (cl.gr s) dx [])) (fun v H' => v = .non ∧ Q (.ref x) H') E :=
  fun x dx nx nd ne => ⟨H, x, dx, l, ws, cs, rfl, upd_same, same_make nx nd, nx, hl, p, h2, hz, hd, fun H' h1 h2 => ⟨rfl, k H' x h1 h2⟩⟩
end

/-! ## told -/
mutual
/-- at v stands the tuple that c tells -/
inductive IsT (H : Hp) : V → Cond → Prop
  | fixed {a : Addr} {b : Bool} (h : H a = some (.tup [.str "fixed", .bl b])) : IsT H (.ref a) (.fixed b)
  | contact {a : Addr} {n : Str} (h : H a = some (.tup [.str "contact", .str n])) : IsT H (.ref a) (.contact n)
  | not {a : Addr} {v : V} {c : Cond} (h : H a = some (.tup [.str "not", v])) (p : IsT H v c) : IsT H (.ref a) (.not c)
  | grp {a : Addr} {vs : List V} {s : Bool} {cs : List Cond} (h : H a = some (.tup (.str (word s) :: vs))) (p : IsTs H vs cs) : IsT H (.ref a) (.grp s cs)
inductive IsTs (H : Hp) : List V → List Cond → Prop
  | nil : IsTs H [] []
  | cons {v : V} {vs : List V} {c : Cond} {cs : List Cond} (h : IsT H v c) (t : IsTs H vs cs) : IsTs H (v :: vs) (c :: cs)
end
section
variable {T : Addr → Prop} {K : PySem.W.Frag} {H H' : Hp} {v : V} {vs : List V} {c : Cond} {cs : List Cond}
mutual
theorem IsT.mono (k : Imm T H H') : ∀ {v : V} {c : Cond}, IsT H v c → IsT H' v c
  | _, _, .fixed h => .fixed (k _ _ h trivial)
  | _, _, .contact h => .contact (k _ _ h trivial)
  | _, _, .not h p => .not (k _ _ h trivial) (p.mono k)
  | _, _, .grp h p => .grp (k _ _ h trivial) (p.mono k)
theorem IsTs.mono (k : Imm T H H') : ∀ {vs : List V} {cs : List Cond}, IsTs H vs cs → IsTs H' vs cs
  | _, _, .nil => .nil
  | _, _, .cons p t => .cons (p.mono k) (t.mono k)
end
mutual
theorem IsT.dp : ∀ {v : V} {c : Cond}, IsT H v c → Dp K H v c.told
  | _, _, .fixed h => .tup (SqT.of h) (.cons (.str _) (.cons (.bl _) .nil))
  | _, _, .contact h => .tup (SqT.of h) (.cons (.str _) (.cons (.str _) .nil))
  | _, _, .not h p => .tup (SqT.of h) (.cons (.str _) (.cons p.dp .nil))
  | _, _, .grp h p => .tup (SqT.of h) (.cons (.str _) p.dp)
theorem IsTs.dp : ∀ {vs : List V} {cs : List Cond}, IsTs H vs cs → DpAll K H vs (Cond.tolds cs)
  | _, _, .nil => .nil
  | _, _, .cons p t => .cons p.dp t.dp
end
theorem IsTs.length : ∀ {vs : List V} {cs : List Cond}, IsTs H vs cs → vs.length = cs.length
  | _, _, .nil => rfl
  | _, _, .cons _ t => by rw [List.length_cons, List.length_cons, IsTs.length t]
theorem IsTs.at : ∀ {vs : List V} {cs : List Cond} {i : Nat} {v : V}, IsTs H vs cs → vs[i]? = some v → ∃ c, cs[i]? = some c ∧ IsT H v c
  | _, _, i, v, .nil, h => by simp at h
  | _, _, 0, v, .cons p t, h => by
    simp at h
    subst h
    exact ⟨_, rfl, p⟩
  | _, _, i + 1, v, .cons p t, h => by
    obtain ⟨c, h1, h2⟩ := IsTs.at (i := i) (v := v) t (by simpa using h)
    exact ⟨c, by simpa using h1, h2⟩
theorem IsTs.snoc : ∀ {vs : List V} {cs : List Cond} {v : V} {c : Cond}, IsTs H vs cs → IsT H v c → IsTs H (vs ++ [v]) (cs ++ [c])
  | _, _, _, _, .nil, p => .cons p .nil
  | _, _, _, _, .cons q t, p => .cons q (t.snoc p)
theorem IsT.ref (p : IsT H v c) : ∃ a xs, v = .ref a ∧ H a = some (.tup xs) := by
  cases p with
  | fixed h => exact ⟨_, _, rfl, h⟩
  | contact h => exact ⟨_, _, rfl, h⟩
  | not h _ => exact ⟨_, _, rfl, h⟩
  | grp h _ => exact ⟨_, _, rfl, h⟩
end
theorem IsTs.take {H : Hp} : ∀ {vs : List V} {cs : List Cond} (n : Nat), IsTs H vs cs → IsTs H (vs.take n) (cs.take n)
  | _, _, 0, _ => .nil
  | _, _, _ + 1, .nil => .nil
  | _, _, n + 1, .cons p t => .cons p (IsTs.take n t)
theorem IsTs.drop {H : Hp} : ∀ {vs : List V} {cs : List Cond} (n : Nat), IsTs H vs cs → IsTs H (vs.drop n) (cs.drop n)
  | _, _, 0, p => p
  | _, _, _ + 1, .nil => .nil
  | _, _, n + 1, .cons p t => IsTs.drop n t
theorem IsTs.app {H : Hp} : ∀ {vs ws : List V} {cs ds : List Cond}, IsTs H vs cs → IsTs H ws ds → IsTs H (vs ++ ws) (cs ++ ds)
  | _, _, _, _, .nil, q => q
  | _, _, _, _, .cons p t, q => .cons p (t.app q)
theorem IsTs.reverse {H : Hp} : ∀ {vs : List V} {cs : List Cond}, IsTs H vs cs → IsTs H vs.reverse cs.reverse
  | _, _, .nil => .nil
  | _, _, .cons p t => by
    rw [List.reverse_cons, List.reverse_cons]
    exact (IsTs.reverse t).snoc p
abbrev s_Fixed_told : Stmt := inClass (top 23) 2
theorem sc_Fixed_told : FnScope ["self"] ["self"] (defScope s_Fixed_told) := ⟨rfl, rfl, rfl, by decide +kernel, rfl, by decide +kernel, by decide +kernel⟩
abbrev s_Contact_told : Stmt := inClass (top 24) 2
theorem sc_Contact_told : FnScope ["self"] ["self"] (defScope s_Contact_told) := ⟨rfl, rfl, rfl, by decide +kernel, rfl, by decide +kernel, by decide +kernel⟩
abbrev s_Turned_told : Stmt := inClass (top 25) 3
theorem sc_Turned_told : FnScope ["self"] ["self"] (defScope s_Turned_told) := ⟨rfl, rfl, rfl, by decide +kernel, rfl, by decide +kernel, by decide +kernel⟩
abbrev s_Group_told : Stmt := inClass (top 26) 4
theorem sc_Group_told : FnScope ["self", "part"] ["self"] (defScope s_Group_told) := ⟨rfl, rfl, rfl, by decide +kernel, rfl, by decide +kernel, by decide +kernel⟩
abbrev s_Series_word : Stmt := inClass (top 27) 1
theorem sc_Series_word : FnScope ["self"] ["self"] (defScope s_Series_word) := ⟨rfl, rfl, rfl, by decide +kernel, rfl, by decide +kernel, by decide +kernel⟩
abbrev s_Branch_word : Stmt := inClass (top 28) 1
theorem sc_Branch_word : FnScope ["self"] ["self"] (defScope s_Branch_word) := ⟨rfl, rfl, rfl, by decide +kernel, rfl, by decide +kernel, by decide +kernel⟩
structure TTold (K : PySem.W.Frag) (mg : Str → Option Value) (cl : Cl) : Prop where
  parts : TParts K mg cl
  m_told_fx : MethAt K cl.fx "told" "Fixed.told" s_Fixed_told ["self"]
  m_told_ct : MethAt K cl.ct "told" "Contact.told" s_Contact_told ["self"]
  m_told_tn : MethAt K cl.tn "told" "Turned.told" s_Turned_told ["self"]
  m_told_sr : MethAt K cl.sr "told" "Group.told" s_Group_told ["self"]
  m_told_br : MethAt K cl.br "told" "Group.told" s_Group_told ["self"]
  m_word_sr : MethAt K cl.sr "word" "Series.word" s_Series_word ["self"]
  m_word_br : MethAt K cl.br "word" "Branch.word" s_Branch_word ["self"]
  z_tuple : mg "tuple" = none
section
variable {P : Program} {w : World} {K : PySem.W.Frag} {mg : Str → Option Value} {base : Heap} {cl : Cl}
def Cl.grp (cl : Cl) (C : Addr) : Prop := C = cl.sr ∨ C = cl.br
theorem Cl.grp_gr (cl : Cl) (s : Bool) : cl.grp (cl.gr s) := by
  cases s
  · exact .inr rfl
  · exact .inl rfl
theorem TParts.srbr (T : TParts K mg cl) : cl.sr ≠ cl.br := by
  have nd := T.nd
  simp only [List.nodup_cons, List.mem_cons, List.not_mem_nil, or_false, not_or] at nd
  exact nd.2.2.2.1
def spWordM (cl : Cl) (C : Addr) : Sp := fun vs H Q _ => ∃ (a dx : Addr) (fs : List (Str × V)) (s : Bool), vs = [.ref a] ∧ H a = some (.ins C dx fs) ∧ C = cl.gr s ∧ Q (.str (word s)) H
theorem disp_word (T : TTold K mg cl) : DispAt P w K mg base CX0 cl.grp "word" 1 ["self"] (spWordM cl) := by
  refine ⟨fun C hC => ?_⟩
  rcases hC with rfl | rfl
  · refine methAt_ok T.parts.c_Series.cl T.m_word_sr sc_Series_word (fun vs H Q E h => ?_) (fun f cdv A outer st H vs Q E hr h => ?_)
    · obtain ⟨a, dx, fs, s, rfl, _⟩ := h; rfl
    · obtain ⟨a, dx, fs, s, rfl, ha, hs, q⟩ := h
      refine ⟨_, (pss_one (ps_ret pe_str)), ?_⟩
      cases s
      · exact absurd hs T.parts.srbr
      · exact q
  · refine methAt_ok T.parts.c_Branch.cl T.m_word_br sc_Branch_word (fun vs H Q E h => ?_) (fun f cdv A outer st H vs Q E hr h => ?_)
    · obtain ⟨a, dx, fs, s, rfl, _⟩ := h; rfl
    · obtain ⟨a, dx, fs, s, rfl, ha, hs, q⟩ := h
      refine ⟨_, (pss_one (ps_ret pe_str)), ?_⟩
      cases s
      · exact q
      · exact absurd hs.symm T.parts.srbr
def spTold (cl : Cl) (n : Nat) (C : Addr) : Sp := fun vs H Q _ => ∃ (a dx : Addr) (fs : List (Str × V)) (c : Cond), vs = [.ref a] ∧ H a = some (.ins C dx fs) ∧ IsP cl H (.ref a) c ∧ c.depth ≤ n ∧ c.size ≤ 1000 ∧
  ∀ (H' : Hp) (v : V), Same H H' → IsT H' v c → Q v H'
theorem ok_told_fx (T : TTold K mg cl) (n : Nat) : ∃ f fd, Cls K cl.fx ∧ Meth K cl.fx "told" f ∧ Binds K fd ["self"] [] ∧ FnOk P w K mg base CX0 1 f fd ["self"] (spTold cl n cl.fx) := by
  refine methAt_ok T.parts.c_Fixed.cl T.m_told_fx sc_Fixed_told (fun vs H Q E h => ?_) (fun f cdv A outer st H vs Q E hr h => ?_)
  · obtain ⟨a, dx, fs, c, rfl, _⟩ := h; rfl
  · obtain ⟨a, dx, fs, c, rfl, ha, p, hd, hz, q⟩ := h
    obtain ⟨b, rfl, rfl⟩ := inv_fx T.parts.nd ha p
    refine ⟨_, (pss_one (ps_ret (pe_tup (pa_cons pe_str (pa_cons (pe_fld (pv 0) rfl) pa_nil))))), ?_⟩
    refine ⟨_, rfl, a, _, dx, _, _, rfl, ha, T.parts.c_Fixed.cl, T.parts.nv_fx, lk1s, line_ge (by simp), fun t nt => ?_⟩
    exact q _ _ (Same.new nt) (.fixed upd_same)
theorem ok_told_ct (T : TTold K mg cl) (n : Nat) : ∃ f fd, Cls K cl.ct ∧ Meth K cl.ct "told" f ∧ Binds K fd ["self"] [] ∧ FnOk P w K mg base CX0 1 f fd ["self"] (spTold cl n cl.ct) := by
  refine methAt_ok T.parts.c_Contact.cl T.m_told_ct sc_Contact_told (fun vs H Q E h => ?_) (fun f cdv A outer st H vs Q E hr h => ?_)
  · obtain ⟨a, dx, fs, c, rfl, _⟩ := h; rfl
  · obtain ⟨a, dx, fs, c, rfl, ha, p, hd, hz, q⟩ := h
    obtain ⟨b, rfl, rfl⟩ := inv_ct T.parts.nd ha p
    refine ⟨_, (pss_one (ps_ret (pe_tup (pa_cons pe_str (pa_cons (pe_fld (pv 0) rfl) pa_nil))))), ?_⟩
    refine ⟨_, rfl, a, _, dx, _, _, rfl, ha, T.parts.c_Contact.cl, T.parts.nn_ct, lk1s, line_ge (by simp), fun t nt => ?_⟩
    exact q _ _ (Same.new nt) (.contact upd_same)
theorem ok_told_tn (T : TTold K mg cl) {n k : Nat} (G_told : DispAt P w K mg base CX0 cl.has "told" k ["self"] (spTold cl n)) :
    ∃ f fd, Cls K cl.tn ∧ Meth K cl.tn "told" f ∧ Binds K fd ["self"] [] ∧ FnOk P w K mg base CX0 (k + 1) f fd ["self"] (spTold cl (n + 1) cl.tn) := by
  refine methAt_ok T.parts.c_Turned.cl T.m_told_tn sc_Turned_told (fun vs H Q E h => ?_) (fun f cdv A outer st H vs Q E hr h => ?_)
  · obtain ⟨a, dx, fs, c, rfl, _⟩ := h; rfl
  · obtain ⟨a, dx, fs, c, rfl, ha, p, hd, hz, q⟩ := h
    obtain ⟨v, c', rfl, rfl, p'⟩ := inv_tn T.parts.nd ha p
    rw [Cond.depth] at hd
    rw [Cond.size] at hz
    refine ⟨_, (pss_one (ps_ret (pe_tup (pa_cons pe_str (pa_cons (pe_methD0 G_told hr pass0 (pe_fld (pv 0) rfl) (Nat.le_refl _)) pa_nil))))), ?_⟩
    obtain ⟨a', C', dx', fs', rfl, ha', hC', hl'⟩ := meth_of (m := "told") (by decide +kernel) p'
    refine ⟨_, rfl, a, _, dx, _, _, rfl, ha, T.parts.c_Turned.cl, T.parts.np_tn, lk1s, a', C', dx', fs', rfl, ha', hC', hl', a', dx', fs', c', rfl, ha', p', by omega, by omega, fun H1 v s1 ht => ?_⟩
    refine ⟨line_ge (by simp), fun t nt => ?_⟩
    exact q _ _ (s1.trans (Same.new nt)) (.not upd_same (ht.mono (T := cl.has) (Imm.new nt)))
theorem ok_told_gr (T : TTold K mg cl) {n k : Nat} (G_told : DispAt P w K mg base CX0 cl.has "told" k ["self"] (spTold cl n)) (hk : 1 ≤ k) (s : Bool) (D : MethAt K (cl.gr s) "told" "Group.told" s_Group_told ["self"]) :
    ∃ f fd, Cls K (cl.gr s) ∧ Meth K (cl.gr s) "told" f ∧ Binds K fd ["self"] [] ∧ FnOk P w K mg base CX0 (k + 1) f fd ["self"] (spTold cl (n + 1) (cl.gr s)) := by
  have G_word : DispAt P w K mg base CX0 cl.grp "word" 1 ["self"] (spWordM cl) := disp_word T
  refine methAt_ok (T.parts.cls (cl.has_gr s)) D sc_Group_told (fun vs H Q E h => ?_) (fun f cdv A outer st H vs Q E hr h => ?_)
  · obtain ⟨a, dx, fs, c, rfl, _⟩ := h; rfl
  · obtain ⟨a, dx, fs, c, rfl, ha, p, hd, hz, q⟩ := h
    obtain ⟨t, ws, cs, rfl, rfl, ht, ps⟩ := inv_gr T.parts.nd rfl ha p
    rw [Cond.depth] at hd
    rw [Cond.size] at hz
    have hlen := ps.length
    have hz2 := Cond.len_sizes cs
    refine ⟨_, (pss_one (ps_ret (pe_op op_catT (pe_tup (pa_cons (pe_methD0 G_word hr pass0 (pv 0) hk) pa_nil)) (pe_callTy call_tuple_of (by rfl) T.z_tuple (by decide +kernel) (pa_cons (pe_lc (own := [("part", 1)]) (g := gName 1) (tt := tYes) rfl sc_Group_told.nd (pi_tup (pe_fld (pv 0) rfl)) (blkOk_by (own := [("part", 1)]) (N := ["self", "part"]) (sc := defScope s_Group_told) (by decide +kernel)) (fun _ _ _ _ _ => pg_name (i := 1) sc_Group_told.nd rfl (Or.inl rfl)) (fun _ _ _ _ _ => pts_nil) (fun _ _ _ _ _ => (pe_methD0 G_told hr pass0 (pv 1) (Nat.le_refl _)))) pa_nil))))), ?_⟩
    refine ⟨_, rfl, a, _, dx, _, rfl, ha, cl.grp_gr s, lk1 (by decide +kernel), a, dx, _, s, rfl, ha, rfl, line_ge (by simp), fun t1 nt1 => ?_⟩
    have ha1 := Same.new nt1 (o := .tup [.str (word s)]) _ _ ha
    refine ⟨_, rfl, a, _, dx, _, _, rfl, ha1, T.parts.cls (cl.has_gr s), T.parts.np s, lk1s, ?_⟩
    have ht1 := Same.new nt1 (o := .tup [.str (word s)]) _ _ ht
    refine ⟨t, rfl, ⟨_, SqT.of ht1⟩, fun D nD => lc_tup (K := K) (a := t) (xs := ws) (fun i H' => Same (upd H t1 (.tup [.str (word s)])) H' ∧ ∃ vs, H' D = some (.lst vs) ∧ IsTs H' vs (cs.take i))
      ⟨Same.new nD, [], upd_same, by simpa using .nil⟩ (fun i H' _ q => SqT.of (q.1 _ _ ht1)) ?_ ?_⟩
    · rintro i y H2 hy ⟨q1, vs, q2, q3⟩
      obtain ⟨c', hc', p'⟩ := (ps.mono (Same.imm ((Same.new nt1).trans q1))).at hy
      obtain ⟨a', C', dx', fs', rfl, ha', hC', hl'⟩ := meth_of (m := "told") (by decide +kernel) p'
      have hm := List.mem_of_getElem? hc'
      have h1 := Cond.depth_mem hm
      have h2 := Cond.size_mem hm
      refine ⟨rfl, _, rfl, a', C', dx', fs', rfl, ha', hC', hl', a', dx', fs', c', rfl, ha', p', by omega, by omega, fun H3 v s3 hv => ?_⟩
      have q2' := s3 _ _ q2
      have hl := q3.length
      rw [List.length_take] at hl
      refine ⟨vs, q2', by rw [sizeLine_eq]; omega, Same.mut (q1.trans s3) nD, vs ++ [v], upd_same, ?_⟩
      have im : Imm cl.has H3 (upd H3 D (.lst (vs ++ [v]))) := Imm.mut q2' id
      rw [List.take_succ, hc']
      exact ((q3.mono (T := cl.has) (Same.imm s3)).mono im).snoc (hv.mono im)
    · rintro H2 ⟨q1, vs, q2, q3⟩
      rw [hlen, List.take_of_length_le (Nat.le_refl _)] at q3
      have hl := q3.length
      refine ⟨D, vs, rfl, .inl ⟨SqL.of q2, fun t2 nt2 => ?_⟩⟩
      have h1 : upd H2 t2 (.tup vs) t1 = some (.tup [.str (word s)]) := Same.new nt2 _ _ (q1 _ _ upd_same)
      have s2 : Same H (upd H2 t2 (.tup vs)) := ((Same.new nt1).trans q1).trans (Same.new nt2)
      have q4 : IsTs (upd H2 t2 (.tup vs)) vs cs := q3.mono (T := cl.has) (Imm.new nt2)
      refine ⟨t1, t2, _, _, rfl, rfl, SqT.of h1, SqT.of upd_same, by simp, line_ge (by simp; omega), fun e => ?_, fun _ t3 nt3 => ?_⟩
      · subst e
        have q4' := q4
        cases q4'
        exact q _ _ s2 (.grp h1 .nil)
      · exact q _ _ (s2.trans (Same.new nt3)) (.grp upd_same (q4.mono (T := cl.has) (Imm.new nt3)))
theorem disp_told (T : TTold K mg cl) : ∀ n : Nat, DispAt P w K mg base CX0 cl.has "told" (n + 1) ["self"] (spTold cl n)
  | 0 => by
    refine ⟨fun C hC => ?_⟩
    have vac : ∀ C vs H Q E, spTold cl 0 C vs H Q E → False := by
      rintro C vs H Q E ⟨a, dx, fs, c, rfl, ha, p, hd, _⟩
      exact absurd c.depth_pos (by omega)
    rcases hC with rfl | rfl | rfl | rfl | rfl
    · exact ok_told_fx T 0
    · exact ok_told_ct T 0
    all_goals
      refine methAt_ok (T.parts.cls (by simp [Cl.has])) (by first | exact T.m_told_tn | exact T.m_told_sr | exact T.m_told_br) (by first | exact sc_Turned_told | exact sc_Group_told) (fun vs H Q E h => (vac _ _ _ _ _ h).elim) (fun f cdv A outer s H vs Q E hr h => (vac _ _ _ _ _ h).elim)
  | n + 1 => by
    have ih := disp_told T n
    refine ⟨fun C hC => ?_⟩
    rcases hC with rfl | rfl | rfl | rfl | rfl
    · obtain ⟨f, fd, h1, h2, h3, h4⟩ := ok_told_fx (P := P) (w := w) (base := base) T (n + 1)
      exact ⟨f, fd, h1, h2, h3, h4.mono (by omega)⟩
    · obtain ⟨f, fd, h1, h2, h3, h4⟩ := ok_told_ct (P := P) (w := w) (base := base) T (n + 1)
      exact ⟨f, fd, h1, h2, h3, h4.mono (by omega)⟩
    · exact ok_told_tn T ih
    · exact ok_told_gr T ih (by omega) true T.m_told_sr
    · exact ok_told_gr T ih (by omega) false T.m_told_br
end

/-! ## part_of -/
abbrev s_single : Stmt := top 30
theorem sc_single : FnScope ["told"] ["told"] (defScope s_single) := ⟨rfl, rfl, rfl, by decide +kernel, rfl, by decide +kernel, by decide +kernel⟩
abbrev s_joined : Stmt := top 31
theorem sc_joined : FnScope ["kind", "parts"] ["kind", "parts"] (defScope s_joined) := ⟨rfl, rfl, rfl, by decide +kernel, rfl, by decide +kernel, by decide +kernel⟩
abbrev s_part_of : Stmt := top 32
theorem sc_part_of : FnScope ["told", "opened", "found", "one", "parts", "is_single"] ["told"] (defScope s_part_of) := ⟨rfl, rfl, rfl, by decide +kernel, rfl, by decide +kernel, by decide +kernel⟩
structure TPartOf (K : PySem.W.Frag) (mg : Str → Option Value) (cl : Cl) : Prop where
  make : TMake K mg cl
  d_single : DefAt K mg "single" s_single ["told"]
  d_joined : DefAt K mg "joined" s_joined ["kind", "parts"]
  d_part_of : DefAt K mg "part_of" s_part_of ["told"]
  z_len : mg "len" = none
mutual
/-- names are names, groups have two parts or more -/
def Cond.ok : Cond → Bool
  | .fixed _ => true
  | .contact n => isName n
  | .not c => c.ok
  | .grp _ cs => decide (2 ≤ cs.length) && Cond.oks cs
def Cond.oks : List Cond → Bool
  | [] => true
  | c :: cs => c.ok && Cond.oks cs
end
theorem Cond.oks_mem : ∀ {cs : List Cond} {c : Cond}, Cond.oks cs = true → c ∈ cs → c.ok = true
  | x :: cs, c, h, m => by
    rw [Cond.oks, Bool.and_eq_true] at h
    rcases List.mem_cons.mp m with rfl | m
    · exact h.1
    · exact Cond.oks_mem h.2 m
theorem Cond.ok_kids {c : Cond} (h : c.ok = true) : Cond.oks c.kids = true := by
  cases c with
  | fixed b => rfl
  | contact n => rfl
  | not c => simpa [Cond.kids, Cond.oks, Cond.ok] using h
  | grp s cs =>
    rw [Cond.ok, Bool.and_eq_true] at h
    exact h.2
theorem isName_len {z : Str} (h : isName z = true) : z.length ≤ 8 := by
  unfold isName at h
  simp only [Bool.and_eq_true, decide_eq_true_eq] at h
  exact h.1.2
def Cond.single : Cond → Bool
  | .fixed _ => true
  | .contact _ => true
  | _ => false
section
variable {P : Program} {w : World} {K : PySem.W.Frag} {mg : Str → Option Value} {base : Heap} {cl : Cl}
def spSingle (cl : Cl) : Sp := fun vs H Q _ => ∃ (v : V) (c : Cond), vs = [v] ∧ IsT H v c ∧ c.single = true ∧ c.ok = true ∧ ∀ (H' : Hp) (x : Addr), Same H H' → IsP cl H' (.ref x) c → Q (.ref x) H'
theorem ok_single (T : TPartOf K mg cl) : FnAt P w K mg base CX0 "single" 5 ["told"] (spSingle cl) := by
  have M_Fixed : MakAt P w K mg base CX0 "Fixed" cl.fx 1 ["self", "value"] (spInitFx cl) := ok_init_fx T.make
  have M_Contact : MakAt P w K mg base CX0 "Contact" cl.ct 3 ["self", "name"] (spInitCt cl) := ok_init_ct T.make
  refine fnAt_ok T.d_single sc_single (fun vs H Q E h => ?_) (fun f cdv A outer s H vs Q E hr h => ?_)
  · obtain ⟨v, c, rfl, _⟩ := h; rfl
  · obtain ⟨v, c, rfl, ht, hs, hok, k⟩ := h
    refine ⟨_, (pss_one (ps_ret (pe_ifExp (pt_cmpR op_eq (pe_ix ix_tup (pv 0) pe_int (fun _ _ => rfl)) pe_str (nomark _)) (pe_makeF M_Fixed hr pass0 (pa_cons (pe_ix ix_tup (pv 0) pe_int (fun _ _ => rfl)) pa_nil)) (pe_makeF M_Contact hr pass0 (pa_cons (pe_ix ix_tup (pv 0) pe_int (fun _ _ => rfl)) pa_nil))))), ?_⟩
    cases ht with
    | @fixed t b h =>
      refine ⟨_, rfl, t, _, 0, .str "fixed", rfl, rfl, SqT.of h, rfl, rfl, _, rfl, ?_⟩
      rw [decide_eq_true rfl]
      refine iteT ⟨_, rfl, t, _, 1, .bl b, rfl, rfl, SqT.of h, rfl, ?_⟩
      exact mk_fx fun H' x s' p => k H' x s' p
    | @contact t n h =>
      refine ⟨_, rfl, t, _, 0, .str "contact", rfl, rfl, SqT.of h, rfl, rfl, _, rfl, ?_⟩
      rw [decide_eq_false (show ¬ (V.str "contact" = V.str "fixed") by decide +kernel)]
      refine iteF ⟨_, rfl, t, _, 1, .str n, rfl, rfl, SqT.of h, rfl, ?_⟩
      exact mk_ct (line_ge (Nat.le_trans (isName_len hok) (by decide))) hok fun H' x s' p => k H' x s' p
    | not h p => cases hs
    | grp h p => cases hs
def kindS : Cond → Str
  | .not _ => "not"
  | .grp s _ => word s
  | .fixed _ => "fixed"
  | .contact _ => "contact"
def spJoined (cl : Cl) : Sp := fun vs H Q _ => ∃ (l : Addr) (ws : List V) (c : Cond), vs = [.str (kindS c), .ref l] ∧ H l = some (.lst ws) ∧ c.single = false ∧ c.ok = true ∧ IsPs cl H ws c.kids ∧ c.size ≤ 60 ∧ c.depth ≤ 20 ∧
  ∀ (H' : Hp) (x : Addr), Same H H' → IsP cl H' (.ref x) c → Q (.ref x) H'
theorem ok_joined (T : TPartOf K mg cl) : FnAt P w K mg base CX0 "joined" 25 ["kind", "parts"] (spJoined cl) := by
  have M_Turned : MakAt P w K mg base CX0 "Turned" cl.tn 23 ["self", "part"] (spInitTn cl) := ok_init_tn T.make
  have M_Series : MakAt P w K mg base CX0 "Series" cl.sr 23 ["self", "parts"] (spInitGr cl true) := ok_init_gr T.make true T.make.parts.c_Series T.make.i_sr
  have M_Branch : MakAt P w K mg base CX0 "Branch" cl.br 23 ["self", "parts"] (spInitGr cl false) := ok_init_gr T.make false T.make.parts.c_Branch T.make.i_br
  refine fnAt_ok T.d_joined sc_joined (fun vs H Q E h => ?_) (fun f cdv A outer s H vs Q E hr h => ?_)
  · obtain ⟨l, ws, c, rfl, _⟩ := h; rfl
  · obtain ⟨l, ws, c, rfl, hl, hs, hok, ps, hz, hd, k⟩ := h
    refine ⟨_, (pss_cons (ps_if (pt_cmpR op_eq (pv 0) pe_str (nomark _)) (pss_one (ps_ret (pe_makeF M_Turned hr pass0 (pa_cons (pe_ix ix_list (pv 1) pe_int (fun _ _ => rfl)) pa_nil)))) pss_nil)
        (pss_cons (ps_if (pt_cmpR op_eq (pv 0) pe_str (nomark _)) (pss_one (ps_ret (pe_makeF M_Series hr pass0 (pa_cons (pv 1) pa_nil)))) pss_nil)
        (pss_one (ps_ret (pe_makeF M_Branch hr pass0 (pa_cons (pv 1) pa_nil)))))), ?_⟩
    cases c with
    | fixed b => cases hs
    | contact n => cases hs
    | not c =>
      rw [Cond.size] at hz
      rw [Cond.depth] at hd
      obtain ⟨v, rfl, p⟩ : ∃ v, ws = [v] ∧ IsP cl H v c := by
        cases ps with
        | cons p t => cases t; exact ⟨_, rfl, p⟩
      refine ⟨_, rfl, rfl, _, rfl, ?_⟩
      rw [decide_eq_true (show V.str (kindS (.not c)) = V.str "not" from rfl)]
      refine iteT ⟨_, rfl, l, _, 0, v, rfl, rfl, SqL.of hl, rfl, ?_⟩
      exact mk_tn p (by omega) (by omega) fun H' x s' p => k H' x s' p
    | grp s cs =>
      rw [Cond.size] at hz
      rw [Cond.depth] at hd
      rw [Cond.ok, Bool.and_eq_true, decide_eq_true_eq] at hok
      refine ⟨_, rfl, rfl, _, rfl, ?_⟩
      cases s with
      | true =>
        rw [decide_eq_false (show ¬ (V.str (kindS (.grp true cs)) = V.str "not") by show ¬ (V.str (Str.ofString "and") = V.str "not"); decide +kernel)]
        refine iteF ⟨_, rfl, rfl, _, rfl, ?_⟩
        rw [decide_eq_true (show V.str (kindS (.grp true cs)) = V.str "and" from rfl)]
        refine iteT ⟨_, rfl, ?_⟩
        exact mk_gr (cs := cs) hl ps hok.1 (by omega) (by omega) fun H' x s' p => k H' x s' p
      | false =>
        rw [decide_eq_false (show ¬ (V.str (kindS (.grp false cs)) = V.str "not") by show ¬ (V.str (Str.ofString "or") = V.str "not"); decide +kernel)]
        refine iteF ⟨_, rfl, rfl, _, rfl, ?_⟩
        rw [decide_eq_false (show ¬ (V.str (kindS (.grp false cs)) = V.str "and") by show ¬ (V.str (Str.ofString "or") = V.str "and"); decide +kernel)]
        refine iteF ⟨_, rfl, ?_⟩
        exact mk_gr (cs := cs) hl ps hok.1 (by omega) (by omega) fun H' x s' p => k H' x s' p
/-! ### the stack -/
/-- what is open: a condition, its parts that are made, the list that holds them -/
structure Frame where
  c : Cond
  ds : List Cond
  pl : Addr
structure Fr1 (cl : Cl) (H0 H : Hp) (v : V) (f : Frame) : Prop where
  ex : ∃ (tp t : Addr) (ws : List V), v = .ref tp ∧ H tp = some (.tup [.ref t, .ref f.pl]) ∧ IsT H (.ref t) f.c ∧ H f.pl = some (.lst ws) ∧ IsPs cl H ws f.ds
  new : H0 f.pl = none
  pre : f.ds = f.c.kids.take f.ds.length
  sz : f.c.size ≤ 60
  dp : f.c.depth ≤ 20
  ok : f.c.ok = true
inductive Stk (cl : Cl) (H0 H : Hp) (root : Cond) : List V → List Frame → Prop
  | one {v : V} {f : Frame} (h : Fr1 cl H0 H v f) (hr : f.c = root) : Stk cl H0 H root [v] [f]
  | push {v : V} {vs : List V} {f g : Frame} {r : List Frame} (s : Stk cl H0 H root vs (g :: r)) (h : Fr1 cl H0 H v f) (hk : g.c.kids[g.ds.length]? = some f.c) (ne : ∀ e ∈ g :: r, e.pl ≠ f.pl) : Stk cl H0 H root (vs ++ [v]) (f :: g :: r)
theorem Fr1.keep {H0 H H' : Hp} {v : V} {f : Frame} (k : Imm cl.has H H') (kl : ∀ ws, H f.pl = some (.lst ws) → H' f.pl = some (.lst ws)) (h : Fr1 cl H0 H v f) : Fr1 cl H0 H' v f := by
  obtain ⟨⟨tp, t, ws, e, h1, h2, h3, h4⟩, a, b, c, d, g⟩ := h
  exact ⟨⟨tp, t, ws, e, k _ _ h1 trivial, h2.mono k, kl _ h3, h4.mono k⟩, a, b, c, d, g⟩
theorem Stk.keep {H0 H H' : Hp} {root : Cond} (k : Imm cl.has H H') : ∀ {vs : List V} {fr : List Frame}, (∀ f ∈ fr, ∀ ws, H f.pl = some (.lst ws) → H' f.pl = some (.lst ws)) → Stk cl H0 H root vs fr → Stk cl H0 H' root vs fr
  | _, _, kl, .one h hr => .one (h.keep k (kl _ (List.mem_singleton.mpr rfl))) hr
  | _, _, kl, .push s h hk ne => .push (Stk.keep k (fun f hf => kl f (List.mem_cons_of_mem _ hf)) s) (h.keep k (kl _ List.mem_cons_self)) hk ne
theorem Stk.ne {H0 H : Hp} {root : Cond} {vs : List V} {fr : List Frame} (s : Stk cl H0 H root vs fr) : fr ≠ [] ∧ vs ≠ [] := by
  cases s <;> simp
theorem Stk.len {H0 H : Hp} {root : Cond} : ∀ {vs : List V} {fr : List Frame}, Stk cl H0 H root vs fr → vs.length = fr.length
  | _, _, .one _ _ => rfl
  | _, _, .push s _ _ _ => by rw [List.length_append, Stk.len s]; rfl
/-- the deeper, the smaller -/
theorem Stk.deep {H0 H : Hp} {root : Cond} : ∀ {vs : List V} {fr : List Frame} {f : Frame} {r : List Frame}, Stk cl H0 H root vs fr → fr = f :: r → r.length + f.c.depth ≤ root.depth
  | _, _, _, _, .one h hr, e => by
    cases e
    rw [hr]
    simp
  | _, _, _, _, .push (g := g) s h hk ne, e => by
    cases e
    have ih := Stk.deep s rfl
    have h1 := Cond.depth_mem (List.mem_of_getElem? hk)
    have h2 := g.c.depth_kids
    rw [List.length_cons]
    omega
theorem Stk.lists {H0 H : Hp} {root : Cond} : ∀ {vs : List V} {fr : List Frame}, Stk cl H0 H root vs fr → ∀ f ∈ fr, ∃ ws, H f.pl = some (.lst ws)
  | _, _, .one h hr, f, hf => by
    obtain ⟨⟨tp, t, ws, e, h1, h2, h3, h4⟩, _⟩ := h
    rw [List.mem_singleton.mp hf]
    exact ⟨_, h3⟩
  | _, _, .push s h hk ne, f, hf => by
    rcases List.mem_cons.mp hf with rfl | hf
    · obtain ⟨⟨tp, t, ws, e, h1, h2, h3, h4⟩, _⟩ := h
      exact ⟨_, h3⟩
    · exact Stk.lists s f hf
/-- the top one is another one -/
theorem Stk.swap {H0 H H' : Hp} {root : Cond} {vs vs1 : List V} {v1 : V} {g g' : Frame} {r : List Frame} (s : Stk cl H0 H root vs (g :: r)) (k : Imm cl.has H H') (kl : ∀ e : Frame, e.pl ≠ g.pl → ∀ ws, H e.pl = some (.lst ws) → H' e.pl = some (.lst ws)) (ev : vs = vs1 ++ [v1]) (h : Fr1 cl H0 H' v1 g') (ec : g'.c = g.c) (ep : g'.pl = g.pl) : Stk cl H0 H' root vs (g' :: r) := by
  cases s with
  | @one v _ h0 hr =>
    have e1 : vs1 = [] ∧ v = v1 := by
      cases vs1 with
      | nil => exact ⟨rfl, by simpa using ev⟩
      | cons a b => simp at ev
    obtain ⟨rfl, rfl⟩ := e1
    exact .one h (ec.trans hr)
  | @push v vs0 _ g0 r0 s h0 hk ne =>
    have e1 := List.append_inj_left' ev rfl
    have e2 : v = v1 := by
      have := List.append_inj_right' ev rfl
      simpa using this
    subst e1 e2
    exact .push (s.keep k fun e he ws hw => kl e (ne e he) ws hw) h (by rw [ec]; exact hk) (fun e he => by rw [ep]; exact ne e he)
/-- what is left to do -/
def lows : List Frame → Nat
  | [] => 0
  | g :: r => 1 + 2 * Cond.sizes (g.c.kids.drop (g.ds.length + 1)) + lows r
def mu : List Frame → Nat
  | [] => 0
  | f :: r => 1 + 2 * Cond.sizes (f.c.kids.drop f.ds.length) + lows r
theorem mu_push {f g : Frame} {r : List Frame} (hk : g.c.kids[g.ds.length]? = some f.c) (hd : f.ds = []) : mu (f :: g :: r) < mu (g :: r) := by
  have e : g.c.kids.drop g.ds.length = f.c :: g.c.kids.drop (g.ds.length + 1) := by
    obtain ⟨h1, h2⟩ := List.getElem?_eq_some_iff.mp hk
    rw [List.drop_eq_getElem_cons h1, h2]
  have e2 := f.c.size_kids
  show 1 + 2 * Cond.sizes (f.c.kids.drop f.ds.length) + (1 + 2 * Cond.sizes (g.c.kids.drop (g.ds.length + 1)) + lows r) < 1 + 2 * Cond.sizes (g.c.kids.drop g.ds.length) + lows r
  rw [e, Cond.sizes, hd, List.length_nil, List.drop_zero]
  omega
theorem mu_pop {f g g' : Frame} {r : List Frame} (hc : g'.c = g.c) (hl : g'.ds.length = g.ds.length + 1) : mu (g' :: r) < mu (f :: g :: r) := by
  show 1 + 2 * Cond.sizes (g'.c.kids.drop g'.ds.length) + lows r < 1 + 2 * Cond.sizes (f.c.kids.drop f.ds.length) + (1 + 2 * Cond.sizes (g.c.kids.drop (g.ds.length + 1)) + lows r)
  rw [hc, hl]
  omega
theorem IsT.shape {H : Hp} {t : Addr} {c : Cond} (p : IsT H (.ref t) c) : ∃ rest, H t = some (.tup (.str (kindS c) :: rest)) ∧ (c.single = false → IsTs H rest c.kids) := by
  cases p with
  | fixed h => exact ⟨_, h, fun e => nomatch e⟩
  | contact h => exact ⟨_, h, fun e => nomatch e⟩
  | not h p => exact ⟨_, h, fun _ => .cons p .nil⟩
  | grp h p => exact ⟨_, h, fun _ => p⟩
theorem single_in (c : Cond) : inV (.str (kindS c)) [.str "fixed", .str "contact"] = c.single := by
  cases c with
  | fixed b => show inV (.str (Str.ofString "fixed")) [.str "fixed", .str "contact"] = true; decide +kernel
  | contact b => show inV (.str (Str.ofString "contact")) [.str "fixed", .str "contact"] = true; decide +kernel
  | not b => show inV (.str (Str.ofString "not")) [.str "fixed", .str "contact"] = false; decide +kernel
  | grp s cs =>
    cases s
    · show inV (.str (Str.ofString "or")) [.str "fixed", .str "contact"] = false; decide +kernel
    · show inV (.str (Str.ofString "and")) [.str "fixed", .str "contact"] = false; decide +kernel
theorem single_kids {c : Cond} (h : c.single = true) : c.kids = [] := by
  cases c with
  | fixed b => rfl
  | contact b => rfl
  | not b => cases h
  | grp s cs => cases h
def spPartOf (cl : Cl) : Sp := fun vs H Q _ => ∃ (v : V) (c : Cond), vs = [v] ∧ IsT H v c ∧ c.ok = true ∧ c.size ≤ 60 ∧ c.depth ≤ 20 ∧ ∀ (H' : Hp) (x : Addr), Same H H' → IsP cl H' (.ref x) c → Q (.ref x) H'
/-- the invariant of the loop -/
def PInv (cl : Cl) (H0 : Hp) (told : V) (op : Addr) (root : Cond) (m : Nat) (σ : L2.St) (H : Hp) : Prop :=
  ∃ (vs : List V) (fr : List Frame) (x : V) (o1 o2 o3 : Option V), σ = [some told, some (.ref op), some x, o1, o2, o3] ∧ H op = some (.lst vs) ∧ H0 op = none ∧ Same H0 H ∧ m = mu fr ∧
    ((fr = [] ∧ vs = [] ∧ ∃ a, x = .ref a ∧ IsP cl H x root) ∨ (Stk cl H0 H root vs fr ∧ ∀ f ∈ fr, f.pl ≠ op))
theorem ok_part_of (T : TPartOf K mg cl) : FnAt P w K mg base CX0 "part_of" 26 ["told"] (spPartOf cl) := by
  have G_single : FnAt P w K mg base CX0 "single" 5 _ (spSingle cl) := ok_single T
  have G_joined : FnAt P w K mg base CX0 "joined" 25 _ (spJoined cl) := ok_joined T
  refine fnAt_ok T.d_part_of sc_part_of (fun vs H Q E h => ?_) (fun f cdv A outer s H vs Q E hr h => ?_)
  · obtain ⟨v, c, rfl, _⟩ := h; rfl
  · obtain ⟨v, root, rfl, ht, hok, hz, hd, k⟩ := h
    obtain ⟨t0, x0, rfl, ht0⟩ := ht.ref
    refine ⟨_, (pss_cons (ps_set (i := 1) sc_part_of.nd rfl (by first | exact Or.inl rfl | exact Or.inr rfl) (pe_lst (pa_cons (pe_tup (pa_cons (pv 0) (pa_cons (pe_lst pa_nil) pa_nil))) pa_nil)))
        (pss_cons (ps_set (i := 2) sc_part_of.nd rfl (by first | exact Or.inl rfl | exact Or.inr rfl) pe_non)
        (pss_cons (ps_while PassesOwn.never (pt_cmpR (op_neE hr.units0) (pv 1) (pe_lst pa_nil) (nomark _)) (pss_cons (ps_asg (pe_ix ix_list (pv 1) (pe_un un_neg pe_int) (fun _ _ => rfl)) (pg_tup rfl (pgs_cons (pg_name (i := 3) sc_part_of.nd rfl (by first | exact Or.inl rfl | exact Or.inr rfl)) (pgs_cons (pg_name (i := 4) sc_part_of.nd rfl (by first | exact Or.inl rfl | exact Or.inr rfl)) pgs_nil))))
          (pss_cons (ps_set (i := 5) sc_part_of.nd rfl (by first | exact Or.inl rfl | exact Or.inr rfl) (pe_cmpR op_in_seq (pe_ix ix_tup (pv 3) pe_int (fun _ _ => rfl)) (pe_tup (pa_cons pe_str (pa_cons pe_str pa_nil))) rfl))
          (C8.pss_cut (ps_if (PW.pt (pw_and (pt_not (pt_val (pv 5))) (pw_and1 (pt_cmpR op_lt (pe_callB call_len_seq (by rfl) T.z_len PySem.boot_len (pa_cons (pv 4) pa_nil)) (pe_op op_sub (pe_callB call_len_seq (by rfl) T.z_len PySem.boot_len (pa_cons (pv 3) pa_nil)) pe_int) (nomark _))))) (pss_cons (ps_expr (pe_bm PySem.F.plainAttrs_list PySem.F.slot_list_append PySem.F.type_list_append mt_append (pv 1) (pa_cons (pe_tup (pa_cons (pe_ix ix_tup (pv 3) (pe_op op_add pe_int (pe_callB call_len_seq (by rfl) T.z_len PySem.boot_len (pa_cons (pv 4) pa_nil))) (fun _ _ => rfl)) (pa_cons (pe_lst pa_nil) pa_nil))) pa_nil)))
            (pss_one ps_continue)) pss_nil)
          (C8.pss_cut (ps_expr (pe_bm0 PySem.F.plainAttrs_list PySem.F.slot_list_pop PySem.F.type_list_pop mt_pop (pv 1)))
          (C8.pss_cut (ps_set (i := 2) sc_part_of.nd rfl (by first | exact Or.inl rfl | exact Or.inr rfl) (pe_ifExp (pt_val (pv 5)) (pe_callF G_single hr pass0 (pa_cons (pv 3) pa_nil)) (pe_callF G_joined hr pass0 (pa_cons (pe_ix ix_tup (pv 3) pe_int (fun _ _ => rfl)) (pa_cons (pv 4) pa_nil)))))
          (pss_one (ps_if (pt_cmpR (op_neE hr.units0) (pv 1) (pe_lst pa_nil) (nomark _)) (pss_one (ps_expr (pe_bm PySem.F.plainAttrs_list PySem.F.slot_list_append PySem.F.type_list_append mt_append (pe_ix ix_tup (pe_ix ix_list (pv 1) (pe_un un_neg pe_int) (fun _ _ => rfl)) pe_int (fun _ _ => rfl)) (pa_cons (pv 2) pa_nil)))) pss_nil))))))))
        (pss_one (ps_ret (pv 2)))))), ?_⟩
    refine ⟨_, rfl, Nat.zero_le _, fun p1 n1 => ⟨line_ge (by simp), fun tp n2 => ⟨line_ge (by simp), fun op n3 => ?_⟩⟩⟩
    have s1 : Same H (upd H p1 (.lst [])) := Same.new n1
    have s2 : Same (upd H p1 (.lst [])) (upd (upd H p1 (.lst [])) tp (.tup [.ref t0, .ref p1])) := Same.new n2
    have s3 : Same (upd (upd H p1 (.lst [])) tp (.tup [.ref t0, .ref p1])) (upd (upd (upd H p1 (.lst [])) tp (.tup [.ref t0, .ref p1])) op (.lst [.ref tp])) := Same.new n3
    have n3' : H op = none := s1.free (s2.free n3)
    have hpo : p1 ≠ op := ne_of_none (s2 _ _ upd_same) n3
    refine ⟨PInv cl H (.ref t0) op root, ⟨mu [⟨root, [], p1⟩], [.ref tp], [⟨root, [], p1⟩], .non, none, none, none, rfl, upd_same, n3', s1.trans (s2.trans s3), rfl, .inr ⟨.one ⟨⟨tp, t0, [], rfl, s3 _ _ upd_same, ?_, s3 _ _ (s2 _ _ upd_same), .nil⟩, n1, rfl, hz, hd, hok⟩ rfl, ?_⟩⟩, ?_⟩
    · exact ht.mono (T := cl.has) (Same.imm (s1.trans (s2.trans s3)))
    · intro f hf
      rw [List.mem_singleton.mp hf]
      exact hpo
    rintro m σ H1 ⟨vs, fr, x, o1, o2, o3, rfl, hop, nop, sm, rfl, hst⟩
    refine ⟨_, rfl, Nat.zero_le _, fun q nq => ⟨op, q, vs, rfl, rfl, SqL.of (Same.new nq _ _ hop), SqL.of upd_same, _, rfl, ?_⟩⟩
    rcases hst with ⟨rfl, rfl, a, rfl, hp⟩ | ⟨hst, hno⟩
    · refine iteF ?_
      walk_at "rd"
      exact k _ _ (sm.trans (Same.new nq)) (hp.mono (Imm.new nq))
    · have hvs : vs.isEmpty = false := by
        have := hst.ne.2
        cases vs with
        | nil => exact absurd rfl this
        | cons => rfl
      rw [hvs]
      refine iteT ⟨fun σ' H' => ∃ m', m' < mu fr ∧ PInv cl H (.ref t0) op root m' σ' H', fun σ' H' h => h, ?_⟩
      -- the top of the stack
      obtain ⟨ws0, v, f, r, evs, efr, hf⟩ : ∃ ws0 v f r, vs = ws0 ++ [v] ∧ fr = f :: r ∧ Fr1 cl H H1 v f := by
        cases hst with
        | one h hr => exact ⟨[], _, _, _, rfl, rfl, h⟩
        | push s h hk ne => exact ⟨_, _, _, _, rfl, rfl, h⟩
      obtain ⟨⟨tp, t, ws, rfl, h1, h2, h3, h4⟩, fnew, fpre, fsz, fdp, fok⟩ := hf
      have sq : Same H1 (upd H1 q (.lst [])) := Same.new nq
      obtain ⟨rest, hsh, hki⟩ := h2.shape
      refine ⟨_, rfl, 1, rfl, op, vs, -1, .ref tp, rfl, rfl, SqL.of (sq _ _ hop), by rw [evs]; exact atI_last _ _, ?_⟩
      refine ⟨tp, _, rfl, SqT.of (sq _ _ h1), rfl, _, _, rfl, ?_⟩
      walk_at "rd"
      refine ⟨t, _, 0, .str (kindS f.c), rfl, rfl, SqT.of (sq _ _ hsh), atI_int (by decide) rfl, line_ge (by simp), fun q2 nq2 => ⟨q2, _, rfl, .inr (SqT.of upd_same), rfl, rfl, ?_⟩⟩
      have e1 : (V.bl (if false = true then !inV (.str (kindS f.c)) [.str "fixed", .str "contact"] else inV (.str (kindS f.c)) [.str "fixed", .str "contact"])) = .bl f.c.single := by
        rw [if_neg Bool.false_ne_true, single_in]
      rw [e1]
      have sq2 : Same H1 (upd (upd H1 q (.lst [])) q2 (.tup [.str "fixed", .str "contact"])) := sq.trans (Same.new nq2)
      generalize (upd (upd H1 q (.lst [])) q2 (.tup [.str "fixed", .str "contact"])) = H2 at sq2 ⊢
      clear e1
      have hn2 : H2 f.pl = some (.lst ws) := sq2 _ _ h3
      have hp2 := h4.length
      have hds : f.ds.length ≤ f.c.kids.length := by
        have := congrArg List.length fpre
        rw [List.length_take] at this
        omega
      refine ⟨fun σ' H' => σ' = [some (.ref t0), some (.ref op), some x, some (.ref t), some (.ref f.pl), some (.bl f.c.single)] ∧ Same H1 H' ∧ f.ds.length = f.c.kids.length, ?_, ?_⟩
      · walk_at "rd"
        cases hsg : f.c.single with
        | true =>
          refine iteF ⟨sq2, ?_⟩
          have e := single_kids hsg
          rw [e] at hds ⊢
          simp at hds
          rw [hds]
        | false =>
          have hki' := hki hsg
          have hrl := hki'.length
          refine iteT ⟨ws, .inl (SqL.of hn2), _, .inr (SqT.of (sq2 _ _ hsh)), ?_⟩
          by_cases hlt : f.ds.length < f.c.kids.length
          · rw [decide_eq_true (show ((ws.length : Nat) : Int) < (((V.str (kindS f.c) :: rest).length : Nat) : Int) - 1 by rw [List.length_cons]; omega)]
            refine iteT ?_
            -- the next part is opened
            obtain ⟨c', hc'⟩ : ∃ c', f.c.kids[f.ds.length]? = some c' := ⟨_, List.getElem?_eq_getElem hlt⟩
            obtain ⟨v', hv'⟩ : ∃ v', rest[f.ds.length]? = some v' := ⟨_, List.getElem?_eq_getElem (by omega)⟩
            obtain ⟨c2, hc2, ht'⟩ := hki'.at hv'
            rw [hc'] at hc2
            cases hc2
            obtain ⟨t', x', rfl, ht2⟩ := ht'.ref
            refine ⟨_, rfl, .inl ⟨rfl, _, SqL.of (sq2 _ _ hop)⟩, ?_⟩
            walk_at "rd"
            refine ⟨ws, .inl (SqL.of hn2), t, _, _, .ref t', rfl, rfl, SqT.of (sq2 _ _ hsh), atI_int (by omega) ?_, line_ge (by simp), fun pl' npl' => ⟨line_ge (by simp), fun tp' ntp' => ?_⟩⟩
            · have e : ((1 : Int) + (ws.length : Nat)).toNat = f.ds.length + 1 := by omega
              rw [e, List.getElem?_cons_succ]
              exact hv'
            have sA : Same H1 (upd (upd H2 pl' (.lst [])) tp' (.tup [.ref t', .ref pl'])) := (sq2.trans (Same.new npl')).trans (Same.new ntp')
            have nplH : H1 pl' = none := sq2.free npl'
            refine ⟨op, vs, _, rfl, rfl, sA _ _ hop, ?_, ?_⟩
            · have h1 := hst.len
              have h2 := hst.deep efr
              have h3 := f.c.depth_pos
              rw [efr, List.length_cons] at h1
              exact small1000 (by omega)
            have hplo : pl' ≠ op := (ne_of_none hop nplH).symm
            have hplr : ∀ e ∈ fr, e.pl ≠ pl' := by
              intro e he q
              have h := Stk.lists hst e he
              obtain ⟨ws', hw⟩ := h
              rw [q, nplH] at hw
              cases hw
            have kp : Imm cl.has H1 (upd (upd (upd H2 pl' (.lst [])) tp' (.tup [.ref t', .ref pl'])) op (.lst (vs ++ [.ref tp']))) := (Same.imm sA).trans (Imm.mut (sA _ _ hop) id)
            have kl : ∀ g ∈ fr, ∀ ws, H1 g.pl = some (.lst ws) → upd (upd (upd H2 pl' (.lst [])) tp' (.tup [.ref t', .ref pl'])) op (.lst (vs ++ [.ref tp'])) g.pl = some (.lst ws) := by
              intro g hg ws hw
              rw [upd_ne (hno g hg)]
              exact sA _ _ hw
            have hck : c' ∈ f.c.kids := List.mem_of_getElem? hc'
            have z1 := Cond.size_mem hck
            have z2 := Cond.depth_mem hck
            have z3 := f.c.size_kids
            have z4 := f.c.depth_kids
            have hnew : Fr1 cl H (upd (upd (upd H2 pl' (.lst [])) tp' (.tup [.ref t', .ref pl'])) op (.lst (vs ++ [.ref tp']))) (.ref tp') ⟨c', [], pl'⟩ := by
              have ntpo : tp' ≠ op := (ne_of_none ((sq2.trans (Same.new npl')) _ _ hop) ntp').symm
              refine ⟨⟨tp', t', [], rfl, ?_, ?_, ?_, .nil⟩, sm.free nplH, rfl, (show c'.size ≤ 60 by omega), (show c'.depth ≤ 20 by omega), Cond.oks_mem (Cond.ok_kids fok) hck⟩
              · rw [upd_ne ntpo, upd_same]
              · exact ht'.mono kp
              · rw [upd_ne hplo]
                exact Same.new ntp' _ _ upd_same
            rw [efr] at hst kl hplr hno ⊢
            refine ⟨_, mu_push (f := ⟨c', [], pl'⟩) hc' rfl, vs ++ [.ref tp'], _, x, _, _, _, rfl, upd_same, nop, Same.mut (sm.trans sA) nop, rfl, .inr ⟨.push (hst.keep kp kl) hnew hc' hplr, fun g hg => ?_⟩⟩
            rcases List.mem_cons.mp hg with rfl | hg
            · exact hplo
            · exact hno g hg
          · rw [decide_eq_false (show ¬ ((ws.length : Nat) : Int) < (((V.str (kindS f.c) :: rest).length : Nat) : Int) - 1 by rw [List.length_cons]; omega)]
            exact iteF ⟨sq2, by omega⟩
      rintro σ' H3 ⟨rfl, s3', hfull⟩
      have hop3 := s3' _ _ hop
      have hkids : f.ds = f.c.kids := by rw [fpre, hfull, List.take_of_length_le (Nat.le_refl _)]
      refine ⟨fun σ' H' => σ' = [some (.ref t0), some (.ref op), some x, some (.ref t), some (.ref f.pl), some (.bl f.c.single)] ∧ H' = upd H3 op (.lst ws0), ?_, ?_⟩
      · refine ⟨_, rfl, .inl ⟨rfl, _, SqL.of hop3⟩, op, vs, .ref tp, rfl, rfl, hop3, ?_, rfl, ?_⟩
        · rw [evs]
          simp
        · rw [evs, List.dropLast_concat]
      rintro σ' H4 ⟨rfl, e4⟩
      have i4 : Imm cl.has H3 H4 := by
        rw [e4]
        exact Imm.mut hop3 id
      have l4 : ∀ g ∈ fr, ∀ ws, H3 g.pl = some (.lst ws) → H4 g.pl = some (.lst ws) := by
        intro g hg ws hw
        rw [e4, upd_ne (hno g hg)]
        exact hw
      have i14 : Imm cl.has H1 H4 := (Same.imm s3').trans i4
      have o4 : H4 op = some (.lst ws0) := by
        rw [e4, upd_same]
      have sm4 : Same H H4 := by
        rw [e4]
        exact Same.mut (sm.trans s3') nop
      have st4 : Stk cl H H4 root vs fr := (hst.keep (Same.imm s3') (fun g hg ws hw => s3' _ _ hw)).keep i4 l4
      clear e4
      refine ⟨fun σ' H' => ∃ y, σ' = [some (.ref t0), some (.ref op), some (.ref y), some (.ref t), some (.ref f.pl), some (.bl f.c.single)] ∧ Same H4 H' ∧ IsP cl H' (.ref y) f.c, ?_, ?_⟩
      · have h24 := h2.mono i14
        refine ⟨_, rfl, _, rfl, ?_⟩
        cases hsg : f.c.single with
        | true => exact iteT ⟨_, rfl, .ref t, f.c, rfl, h24, hsg, fok, fun H5 y s5 p5 => ⟨y, rfl, s5, p5⟩⟩
        | false =>
          refine iteF ⟨_, rfl, t, _, 0, .str (kindS f.c), rfl, rfl, SqT.of (i14 _ _ hsh trivial), atI_int (by decide) rfl, _, rfl, f.pl, ws, f.c, rfl, ?_, hsg, fok, ?_, fsz, fdp, fun H5 y s5 p5 => ⟨y, rfl, s5, p5⟩⟩
          · exact l4 f (by rw [efr]; exact List.mem_cons_self) _ (s3' _ _ h3)
          · rw [← hkids]
            exact h4.mono i14
      rintro σ' H5 ⟨y, rfl, s5, p5⟩
      refine ⟨_, rfl, Nat.zero_le _, fun q3 nq3 => ⟨op, q3, ws0, rfl, rfl, SqL.of (Same.new nq3 _ _ (s5 _ _ o4)), SqL.of upd_same, _, rfl, ?_⟩⟩
      have s46 : Same H4 (upd H5 q3 (.lst [])) := s5.trans (Same.new nq3)
      have p6 : IsP cl (upd H5 q3 (.lst [])) (.ref y) f.c := p5.mono (Imm.new nq3)
      generalize upd H5 q3 (.lst []) = H6 at s46 p6 ⊢
      cases r with
      | nil =>
        have ews : ws0 = [] := by
          have h := hst.len
          rw [efr, evs] at h
          simpa using h
        subst ews
        refine iteF ⟨0, by rw [efr]; exact Nat.lt_of_lt_of_le Nat.zero_lt_one (Nat.le_add_right 1 _), [], [], .ref y, _, _, _, rfl, s46 _ _ o4, nop, sm4.trans s46, rfl, .inl ⟨rfl, rfl, y, rfl, ?_⟩⟩
        rw [efr] at hst
        cases hst with
        | one h hr => rw [← hr]; exact p6
      | cons g r =>
        rw [efr, evs] at st4
        obtain ⟨sg, hk, ne⟩ : Stk cl H H4 root ws0 (g :: r) ∧ g.c.kids[g.ds.length]? = some f.c ∧ ∀ e ∈ g :: r, e.pl ≠ f.pl := by
          generalize he : ws0 ++ [V.ref tp] = vv at st4
          cases st4 with
          | push s h hk ne =>
            have := List.append_inj_left' he rfl
            subst this
            exact ⟨s, hk, ne⟩
        have sg6 : Stk cl H H6 root ws0 (g :: r) := sg.keep (Same.imm s46) (fun e _ ws hw => s46 _ _ hw)
        obtain ⟨vs1, v1, ev1, hg1⟩ : ∃ vs1 v1, ws0 = vs1 ++ [v1] ∧ Fr1 cl H H6 v1 g := by
          cases sg6 with
          | one h hr => exact ⟨[], _, rfl, h⟩
          | push s h hk ne => exact ⟨_, _, rfl, h⟩
        obtain ⟨⟨tg, tt, wg, rfl, g1, g2, g3, g4⟩, gnew, gpre, gsz, gdp, gok⟩ := hg1
        have hne : ws0.isEmpty = false := by rw [ev1]; simp
        rw [hne]
        have o6 := s46 _ _ o4
        refine iteT ⟨_, rfl, 1, rfl, op, ws0, -1, .ref tg, rfl, rfl, SqL.of o6, by rw [ev1]; exact atI_last _ _, tg, _, 1, .ref g.pl, rfl, rfl, SqT.of g1, rfl, .inl ⟨rfl, _, SqL.of g3⟩, ?_⟩
        have hwl := g4.length
        have hgl : g.ds.length < g.c.kids.length := (List.getElem?_eq_some_iff.mp hk).1
        have hz3 := Cond.len_sizes g.c.kids
        have hz4 := g.c.size_kids
        refine ⟨_, rfl, g.pl, wg, .ref y, rfl, rfl, g3, small1000 (by omega), ?_⟩
        have ngo : g.pl ≠ op := hno g (by rw [efr]; exact List.mem_cons_of_mem _ List.mem_cons_self)
        refine ⟨mu (⟨g.c, g.ds ++ [f.c], g.pl⟩ :: r), ?_, ws0, ⟨g.c, g.ds ++ [f.c], g.pl⟩ :: r, .ref y, _, _, _, rfl, ?_, nop, Same.mut (sm4.trans s46) gnew, rfl, .inr ⟨?_, ?_⟩⟩
        · rw [efr]
          exact mu_pop rfl (by simp)
        · rw [upd_ne ngo.symm]
          exact o6
        · have i7 : Imm cl.has H6 (upd H6 g.pl (.lst (wg ++ [.ref y]))) := Imm.mut g3 id
          have hfr : Fr1 cl H (upd H6 g.pl (.lst (wg ++ [.ref y]))) (.ref tg) ⟨g.c, g.ds ++ [f.c], g.pl⟩ := by
            refine ⟨⟨tg, tt, wg ++ [.ref y], rfl, i7 _ _ g1 trivial, g2.mono i7, upd_same, (g4.mono i7).snoc (p6.mono i7)⟩, gnew, ?_, gsz, gdp, gok⟩
            show g.ds ++ [f.c] = g.c.kids.take (g.ds ++ [f.c]).length
            rw [List.length_append, List.length_singleton, List.take_succ, hk, ← gpre]
            rfl
          exact sg6.swap i7 (fun e he => by
            intro ws hw
            rw [upd_ne he]
            exact hw) ev1 hfr rfl rfl
        · intro e he
          rcases List.mem_cons.mp he with rfl | he
          · exact ngo
          · exact hno e (by rw [efr]; exact List.mem_cons_of_mem _ (List.mem_cons_of_mem _ he))
end

/-! ## five names -/
abbrev s__law_names : Stmt := top 37
theorem sc__law_names : FnScope ["_law_cell", "_law_base", "_law_at", "_law_names_here", "_law_k", "_law_sign"] ["_law_cell"] (defScope s__law_names) := ⟨rfl, rfl, rfl, by decide +kernel, rfl, by decide +kernel, by decide +kernel⟩
structure TNames5 (K : PySem.W.Frag) (mg : Str → Option Value) : Prop where
  cells : TCells K mg
  d_names : DefAt K mg "_law_names" s__law_names ["_law_cell"]
  z_range : mg "range" = none
/-! ### names -/
def special : List Nat := [98, 106, 107, 113, 122]
theorem kept_special : ∀ z ∈ keptL, ∀ c ∈ z.cps.toList, c ∉ special := by decide +kernel
theorem name_ok (b s : List Nat) (i : Nat) (hb : ∀ x ∈ b, 97 ≤ x ∧ x ≤ 122) (hbl : b.length ≤ 5) (hs : ∀ x ∈ s, 97 ≤ x ∧ x ≤ 122) (hsl : s.length ≤ 3) (hc : ∃ c ∈ s, c ∈ special) : isName (mkS (b.take i ++ s ++ b.drop i)) = true := by
  have low : ∀ x ∈ b.take i ++ s ++ b.drop i, 97 ≤ x ∧ x ≤ 122 := by
    intro x hx
    rcases List.mem_append.mp hx with hx | hx
    · rcases List.mem_append.mp hx with hx | hx
      · exact hb x (List.mem_of_mem_take hx)
      · exact hs x hx
    · exact hb x (List.mem_of_mem_drop hx)
  obtain ⟨c, hc1, hc2⟩ := hc
  have hm : c ∈ b.take i ++ s ++ b.drop i := List.mem_append_left _ (List.mem_append_right _ hc1)
  unfold isName isWord
  rw [tl_mkS, mkS_len]
  have e1 : (b.take i ++ s ++ b.drop i).all isLow = true := List.all_eq_true.mpr fun x hx => by
    unfold isLow
    exact decide_eq_true (low x hx)
  have e2 : (b.take i ++ s ++ b.drop i).isEmpty = false := by
    cases h : b.take i ++ s ++ b.drop i with
    | nil => rw [h] at hm; cases hm
    | cons => rfl
  have e3 : (b.take i ++ s ++ b.drop i).length ≤ 8 := by
    rw [List.length_append, List.length_append, List.length_take, List.length_drop]
    omega
  have e4 : ¬ mkS (b.take i ++ s ++ b.drop i) ∈ keptL := fun h => kept_special _ h c (by rw [tl_mkS]; exact hm) hc2
  rw [e1, e2, decide_eq_true e3, decide_eq_false e4]
  rfl
theorem bjkqz_at {j : Int} (h0 : 0 ≤ j) (h1 : j < 5) : ∃ c, c ∈ special ∧ atI (("bjkqz" : Str)).cps.toList j = some c := by
  have e : ("bjkqz" : Str).cps.toList = special := by decide +kernel
  rw [e]
  obtain ⟨v, hv, ha⟩ := atI_ex (xs := special) h0 (by rw [show special.length = 5 from rfl]; exact h1)
  exact ⟨v, hv, ha⟩
def someL : List Str := ["note", "orb", "onx", "brand", "floor", "knot", "timers"]
theorem some_ok : ∀ z ∈ someL, isName z = true := by decide +kernel
/-- a list of five names at p -/
structure Names5 (H : Hp) (p : Addr) (ns : List Str) : Prop where
  at_ : H p = some (.lst (ns.map V.str))
  five : ns.length = 5
  ok : ∀ n ∈ ns, isName n = true
def spNames : Sp := fun vs H Q _ => ∃ c : Int, vs = [.int c] ∧ ∀ (H' : Hp) (p : Addr) (ns : List Str), Same H H' → H p = none → Names5 H' p ns → Q (.ref p) H'
section
variable {P : Program} {w : World} {K : PySem.W.Frag} {mg : Str → Option Value} {base : Heap}
theorem ok_names (T : TNames5 K mg) : FnAt P w K mg base CX0 "_law_names" 3 ["_law_cell"] spNames := by
  have G__law_word : FnAt P w K mg base CX0 "_law_word" 2 _ spWord := ok_word T.cells
  have G__law_mixed : FnAt P w K mg base CX0 "_law_mixed" 1 _ spMixed := ok_mixed T.cells
  refine fnAt_ok T.d_names sc__law_names (fun vs H Q E h => ?_) (fun f cdv A outer s H vs Q E hr h => ?_)
  · obtain ⟨c, rfl, _⟩ := h; rfl
  · obtain ⟨c0, rfl, k⟩ := h
    refine ⟨_, (pss_cons (ps_set (i := 0) sc__law_names.nd rfl (by first | exact Or.inl rfl | exact Or.inr rfl) (pe_callF G__law_mixed hr pass0 (pa_cons (pv 0) (pa_cons pe_int pa_nil))))
        (pss_cons (ps_set (i := 1) sc__law_names.nd rfl (by first | exact Or.inl rfl | exact Or.inr rfl) (pe_callF G__law_word hr pass0 (pa_cons (pv 0) (pa_cons (pe_op op_mod (pv 0) pe_int) pa_nil))))
        (pss_cons (ps_set (i := 2) sc__law_names.nd rfl (by first | exact Or.inl rfl | exact Or.inr rfl) (pe_op op_mod (pe_op op_fdiv (pv 0) pe_int) pe_int))
        (pss_cons (ps_set (i := 3) sc__law_names.nd rfl (by first | exact Or.inl rfl | exact Or.inr rfl) (pe_lst pa_nil))
        (pss_cons (ps_for PassesOwn.never rfl (pi_range1 rfl T.z_range (pa_cons pe_int pa_nil)) (pg_name (i := 4) sc__law_names.nd rfl (by first | exact Or.inl rfl | exact Or.inr rfl)) (pss_cons (ps_set (i := 5) sc__law_names.nd rfl (by first | exact Or.inl rfl | exact Or.inr rfl) (pe_ix ix_str pe_str (pv 4) (fun _ _ => rfl)))
          (C8.pss_cut (ps_if (pt_cmpR op_eq (pe_op op_mod (pe_op op_fdiv (pv 0) pe_int) pe_int) pe_int (nomark _)) (pss_one (ps_set (i := 5) sc__law_names.nd rfl (by first | exact Or.inl rfl | exact Or.inr rfl) (pe_op op_add_str (pe_callF G__law_word hr pass0 (pa_cons (pe_callF G__law_mixed hr pass0 (pa_cons (pv 0) (pa_cons (pe_op op_add pe_int (pv 4)) pa_nil))) (pa_cons pe_int pa_nil))) (pv 5)))) pss_nil)
          (pss_one (ps_expr (pe_bm PySem.F.plainAttrs_list PySem.F.slot_list_append PySem.F.type_list_append mt_append (pv 3) (pa_cons (pe_op op_add_str (pe_op op_add_str (pe_slice sl_str (pv 1) po_none (po_some (pv 2))) (pv 5)) (pe_slice sl_str (pv 1) (po_some (pv 2)) po_none)) pa_nil)))))))
        (pss_cons (ps_if (pt_cmpR op_eq (pe_op op_mod (pe_op op_fdiv (pv 0) pe_int) pe_int) pe_int (nomark _)) (pss_one (ps_set (i := 3) sc__law_names.nd rfl (by first | exact Or.inl rfl | exact Or.inr rfl) (pe_slice sl_list (pe_slice sl_list (pe_lst (pa_cons pe_str (pa_cons pe_str (pa_cons pe_str (pa_cons pe_str (pa_cons pe_str (pa_cons pe_str (pa_cons pe_str pa_nil)))))))) (po_some (pe_op op_mod (pe_op op_fdiv (pv 0) pe_int) pe_int)) po_none) po_none (po_some pe_int)))) pss_nil)
        (pss_one (ps_ret (pv 3))))))))), ?_⟩
    walk_at "rd"
    refine ⟨c0, 3, rfl, ?_⟩
    have hc := mixed_nn c0 3
    generalize mixed c0 3 = c at hc
    have h60 := Int.emod_nonneg c (show (6 : Int) ≠ 0 by decide)
    have h61 := Int.emod_lt_of_pos c (show (0 : Int) < 6 by decide)
    walk_at "rd"
    refine ⟨c, c % 6, rfl, h60, by omega, ?_⟩
    walk_at "rd"
    have hbl : (wordL c (c % 6).toNat).length ≤ 5 := by
      rw [wordL_len]
      omega
    have hbw := wordL_low c (c % 6).toNat
    generalize wordL c (c % 6).toNat = b at hbl hbw
    have h70 := Int.emod_nonneg (c / 6) (show (6 : Int) ≠ 0 by decide)
    generalize c / 6 % 6 = at_ at h70
    obtain ⟨i, rfl⟩ := Int.eq_ofNat_of_zero_le h70
    refine ⟨Nat.zero_le _, fun p np => ?_⟩
    refine ⟨_, rfl, by decide, by decide, for_range (lo := 0) (n := 5) (fun j σ H' => ∃ (v5 v6 : Option V) (ns : List Str), σ = [some (.int c), some (.str (mkS b)), some (.int (i : Nat)), some (.ref p), v5, v6] ∧ Same H H' ∧ H' p = some (.lst (ns.map V.str)) ∧ ns.length = j ∧ ∀ n ∈ ns, isName n = true)
      ⟨none, none, [], rfl, Same.new np, upd_same, rfl, fun n hn => by cases hn⟩ ?_ ?_⟩
    · rintro j σ H1 hj ⟨v5, v6, ns, rfl, s1, hp, hl, hns⟩
      walk_at "rd"
      obtain ⟨x, hx, ha⟩ := bjkqz_at (j := 0 + (j : Int)) (by omega) (by omega)
      refine ⟨line_ge (by decide +kernel), x, ha, ?_⟩
      refine ⟨fun σ' H' => ∃ s : List Nat, σ' = [some (.int c), some (.str (mkS b)), some (.int (i : Nat)), some (.ref p), some (.int (0 + (j : Nat))), some (.str (mkS s))] ∧ H' = H1 ∧ s.length ≤ 3 ∧ (∀ x ∈ s, 97 ≤ x ∧ x ≤ 122) ∧ ∃ x ∈ s, x ∈ special, ?_, ?_⟩
      · have xlow : 97 ≤ x ∧ x ≤ 122 := by
          have q : ∀ x ∈ special, 97 ≤ x ∧ x ≤ 122 := by decide
          exact q x hx
        walk_at "rd"
        refine ite2 (fun _ => ?_) (fun _ => ?_)
        · refine ⟨_, _, rfl, _, _, rfl, by decide, by decide, ?_⟩
          walk_at "rd"
          refine ⟨line_ge ?_, wordL (mixed c (40 + (0 + (j : Int)))) (Int.toNat 2) ++ [x], ?_⟩
          · rw [mkS_one, mkS_len, mkS_len, wordL_len]
            simp
          · rw [mkS_one, mkS_app]
            refine ⟨rfl, ?_, ?_, x, List.mem_append_right _ (List.mem_singleton.mpr rfl), hx⟩
            · rw [List.length_append, wordL_len]
              simp
            · intro y hy
              rcases List.mem_append.mp hy with hy | hy
              · exact wordL_low _ _ y hy
              · rw [List.mem_singleton.mp hy]
                exact xlow
        · refine ⟨[x], by rw [mkS_one], by simp, ?_, x, List.mem_singleton.mpr rfl, hx⟩
          intro y hy
          rw [List.mem_singleton.mp hy]
          exact xlow
      · rintro σ' H2 ⟨s, rfl, rfl, hsl, hsw, hsp⟩
        refine ⟨_, rfl, .inl ⟨rfl, _, SqL.of hp⟩, ?_⟩
        walk_at "rd"
        rw [cutS_to, cutS_from, mkS_len, mkS_len, mkS_len]
        have l1 : (b.take i).length ≤ 5 := by rw [List.length_take]; omega
        have l2 : (b.drop i).length ≤ 5 := by rw [List.length_drop]; omega
        refine ⟨line_ge (by omega), line_ge (by omega), line_ge (by omega), line_ge ?_, p, ns.map V.str, _, rfl, rfl, hp, ?_, ?_⟩
        · rw [mkS_app, mkS_len, mkS_len, List.length_append]
          omega
        · rw [List.length_map]
          exact small1000 (by omega)
        · rw [mkS_app, mkS_app]
          refine ⟨_, _, ⟨rfl, rfl⟩, Same.mut s1 np, ns ++ [mkS (b.take i ++ s ++ b.drop i)], ?_, by simp [hl], ?_⟩
          · rw [upd_same, List.map_append]
            rfl
          · intro n hn
            rcases List.mem_append.mp hn with hn | hn
            · exact hns n hn
            · rw [List.mem_singleton.mp hn]
              exact name_ok b s i hbw hbl hsw hsl hsp
    · rintro σ H1 ⟨v5, v6, ns, rfl, s1, hp, hl, hns⟩
      walk_at "rd"
      refine ite2 (fun _ => ?_) (fun _ => ?_)
      · refine ⟨line_ge (by decide), fun p2 np2 => ?_⟩
        have h30 := Int.emod_nonneg (c / 432) (show (3 : Int) ≠ 0 by decide)
        have h31 := Int.emod_lt_of_pos (c / 432) (show (0 : Int) < 3 by decide)
        generalize c / 432 % 3 = m at h30 h31
        obtain ⟨m, rfl⟩ := Int.eq_ofNat_of_zero_le h30
        refine ⟨p2, someL.map V.str, rfl, SqL.of upd_same, fun p3 np3 => ⟨p3, _, rfl, SqL.of upd_same, fun p4 np4 => ?_⟩⟩
        have e1 : cutV (cutV (someL.map V.str) (some (m : Int)) none) none (some 5) = ((someL.drop m).take 5).map V.str := by
          rw [cutV_from, show (5 : Int) = ((5 : Nat) : Int) from rfl, cutV_to, List.map_take, List.map_drop]
        rw [e1]
        have sA : Same H _ := ((s1.trans (Same.new (o := .lst (someL.map V.str)) np2)).trans (Same.new (o := .lst (cutV (someL.map V.str) (some (m : Int)) none)) np3))
        refine k _ p4 _ (sA.trans (Same.new np4)) (sA.free np4) ⟨upd_same, ?_, fun n hn => some_ok n (List.mem_of_mem_drop (List.mem_of_mem_take hn))⟩
        rw [List.length_take, List.length_drop]
        show min 5 (7 - m) = 5
        omega
      · exact k _ p ns s1 np ⟨hp, hl, hns⟩
/-! ### size of a tuple -/
end

/-! ## what making a condition is refused with -/
/-- the classes of errors -/
structure Xc where
  err : Addr
  name : Addr
  part : Addr
structure TExc (K : PySem.W.Frag) (mg : Str → Option Value) (xc : Xc) : Prop where
  e_err : ErrAt K mg "LadderError" xc.err
  e_name : ExcAt K mg "NoName" xc.name xc.err
  e_part : ExcAt K mg "NoPart" xc.part xc.err
structure TRef (K : PySem.W.Frag) (mg : Str → Option Value) (cl : Cl) (xc : Xc) : Prop where
  partof : TPartOf K mg cl
  exc : TExc K mg xc
/-- too large or too deep -/
def Cond.big (c : Cond) : Bool := decide (60 < c.size) || decide (20 < c.depth)
mutual
/-- none: it is made; true: parts that make none; false: no name -/
def Cond.bad : Cond → Option Bool
  | .fixed _ => none
  | .contact n => if isName n = true then none else some false
  | .not c => match c.bad with
    | some e => some e
    | none => if (Cond.not c).big = true then some true else none
  | .grp s cs => match Cond.bads cs with
    | some e => some e
    | none => if cs.length < 2 then some true else if (Cond.grp s cs).big = true then some true else none
def Cond.bads : List Cond → Option Bool
  | [] => none
  | c :: cs => match c.bad with
    | some e => some e
    | none => Cond.bads cs
end
def Xc.of (xc : Xc) (b : Bool) : Addr := if b then xc.part else xc.name
theorem big_no {c : Cond} (h : c.big = false) : c.size ≤ 60 ∧ c.depth ≤ 20 := by
  unfold Cond.big at h
  rw [Bool.or_eq_false_iff, decide_eq_false_iff_not, decide_eq_false_iff_not] at h
  omega
theorem big_of {c : Cond} (h1 : c.size ≤ 60) (h2 : c.depth ≤ 20) : c.big = false := by
  unfold Cond.big
  rw [Bool.or_eq_false_iff, decide_eq_false_iff_not, decide_eq_false_iff_not]
  omega
mutual
theorem Cond.bad_none : ∀ {c : Cond}, c.bad = none → c.ok = true ∧ c.size ≤ 60 ∧ c.depth ≤ 20
  | .fixed _, _ => ⟨rfl, by simp [Cond.size], by simp [Cond.depth]⟩
  | .contact n, h => by
    rw [Cond.bad] at h
    split at h
    · rename_i hn
      exact ⟨hn, by simp [Cond.size], by simp [Cond.depth]⟩
    · cases h
  | .not c, h => by
    rw [Cond.bad] at h
    split at h
    · cases h
    · rename_i hc
      split at h
      · cases h
      · rename_i hb
        have := Cond.bad_none hc
        have hb' : (Cond.not c).big = false := by simpa using hb
        exact ⟨by rw [Cond.ok]; exact this.1, big_no hb'⟩
  | .grp s cs, h => by
    rw [Cond.bad] at h
    split at h
    · cases h
    · rename_i hc
      split at h
      · cases h
      · rename_i hl
        split at h
        · cases h
        · rename_i hb
          have := Cond.bads_none hc
          have hb' : (Cond.grp s cs).big = false := by simpa using hb
          exact ⟨by rw [Cond.ok, this.1, decide_eq_true (by omega)]; rfl, big_no hb'⟩
theorem Cond.bads_none : ∀ {cs : List Cond}, Cond.bads cs = none → Cond.oks cs = true ∧ ∀ c ∈ cs, c.bad = none
  | [], _ => ⟨rfl, by simp⟩
  | c :: cs, h => by
    rw [Cond.bads] at h
    split at h
    · cases h
    · rename_i hc
      have h1 := Cond.bad_none hc
      have h2 := Cond.bads_none h
      refine ⟨by rw [Cond.oks, h1.1, h2.1]; rfl, fun x hx => ?_⟩
      rcases List.mem_cons.mp hx with rfl | hx
      · exact hc
      · exact h2.2 x hx
end
mutual
theorem Cond.bad_ok : ∀ {c : Cond}, c.ok = true → c.size ≤ 60 → c.depth ≤ 20 → c.bad = none
  | .fixed _, _, _, _ => rfl
  | .contact n, h, _, _ => by
    rw [Cond.ok] at h
    rw [Cond.bad, if_pos h]
  | .not c, h, hz, hd => by
    rw [Cond.ok] at h
    have e := big_of hz hd
    rw [Cond.size] at hz
    rw [Cond.depth] at hd
    rw [Cond.bad, Cond.bad_ok h (by omega) (by omega)]
    simp [e]
  | .grp s cs, h, hz, hd => by
    rw [Cond.ok, Bool.and_eq_true, decide_eq_true_eq] at h
    have e := big_of hz hd
    rw [Cond.size] at hz
    rw [Cond.depth] at hd
    rw [Cond.bad, Cond.bads_ok h.2 (by omega) (by omega)]
    simp [e]
    omega
theorem Cond.bads_ok : ∀ {cs : List Cond}, Cond.oks cs = true → Cond.sizes cs ≤ 60 → Cond.depths cs ≤ 20 → Cond.bads cs = none
  | [], _, _, _ => rfl
  | c :: cs, h, hz, hd => by
    rw [Cond.oks, Bool.and_eq_true] at h
    rw [Cond.sizes] at hz
    rw [Cond.depths] at hd
    rw [Cond.bads, Cond.bad_ok h.1 (by omega) (by omega)]
    exact Cond.bads_ok h.2 (by omega) (by omega)
end
theorem Cond.bads_app : ∀ {a b : List Cond}, Cond.bads a = none → Cond.bads (a ++ b) = Cond.bads b
  | [], _, _ => rfl
  | c :: a, b, h => by
    rw [Cond.bads] at h
    split at h
    · cases h
    · rename_i hc
      rw [List.cons_append, Cond.bads, hc]
      exact Cond.bads_app h
/-- the first one that is bad tells -/
theorem Cond.bads_at {cs : List Cond} {n : Nat} {c : Cond} {e : Bool} (h : Cond.bads (cs.take n) = none) (hc : cs[n]? = some c) (he : c.bad = some e) : Cond.bads cs = some e := by
  obtain ⟨h1, h2⟩ := List.getElem?_eq_some_iff.mp hc
  have e1 : cs = cs.take n ++ c :: cs.drop (n + 1) := by
    rw [← h2, ← List.drop_eq_getElem_cons h1, List.take_append_drop]
  rw [e1, Cond.bads_app h, Cond.bads, he]
theorem Cond.bad_kids {c : Cond} {e : Bool} (h : Cond.bads c.kids = some e) : c.bad = some e := by
  cases c with
  | fixed b => cases h
  | contact n => cases h
  | not c =>
    rw [Cond.bad]
    rw [Cond.kids, Cond.bads] at h
    cases hc : c.bad with
    | none => rw [hc] at h; cases h
    | some x => rw [hc] at h; exact h
  | grp s cs =>
    rw [Cond.kids] at h
    rw [Cond.bad, h]
mutual
/-- few parts in each, or small ones -/
def Cond.thin : Cond → Bool
  | .fixed _ => true
  | .contact n => decide (n.length ≤ 1000000)
  | .not c => c.thin
  | .grp _ cs => (decide (cs.length ≤ 15) || decide (Cond.sizes cs ≤ 900)) && Cond.thins cs
def Cond.thins : List Cond → Bool
  | [] => true
  | c :: cs => c.thin && Cond.thins cs
end
theorem Cond.thins_mem : ∀ {cs : List Cond} {c : Cond}, Cond.thins cs = true → c ∈ cs → c.thin = true
  | x :: cs, c, h, m => by
    rw [Cond.thins, Bool.and_eq_true] at h
    rcases List.mem_cons.mp m with rfl | m
    · exact h.1
    · exact Cond.thins_mem h.2 m
theorem Cond.thin_kids {c : Cond} (h : c.thin = true) : Cond.thins c.kids = true := by
  cases c with
  | fixed b => rfl
  | contact n => rfl
  | not c => rw [Cond.thin] at h; simp [Cond.kids, Cond.thins, h]
  | grp s cs =>
    rw [Cond.thin, Bool.and_eq_true] at h
    exact h.2
theorem sizes_le60 : ∀ {cs : List Cond}, (∀ c ∈ cs, c.bad = none) → Cond.sizes cs ≤ 60 * cs.length
  | [], _ => Nat.zero_le _
  | c :: cs, h => by
    have h1 := Cond.bad_none (h c List.mem_cons_self)
    have h2 := sizes_le60 fun x hx => h x (List.mem_cons_of_mem _ hx)
    rw [Cond.sizes, List.length_cons]
    omega
theorem depths_le20 : ∀ {cs : List Cond}, (∀ c ∈ cs, c.bad = none) → Cond.depths cs ≤ 20
  | [], _ => Nat.zero_le _
  | c :: cs, h => by
    have h1 := Cond.bad_none (h c List.mem_cons_self)
    have h2 := depths_le20 fun x hx => h x (List.mem_cons_of_mem _ hx)
    rw [Cond.depths]
    omega
/-- parts that are made: what is made of them is not beyond what size and depth can tell -/
theorem thin_bound {c : Cond} (h : c.thin = true) (hb : Cond.bads c.kids = none) : c.size ≤ 1000 ∧ c.depth ≤ 21 := by
  have hk := (Cond.bads_none hb).2
  have h1 := sizes_le60 hk
  have h2 := depths_le20 hk
  have e1 := c.size_kids
  have e2 := c.depth_kids
  refine ⟨?_, by omega⟩
  cases c with
  | fixed b => simp [Cond.size]
  | contact n => simp [Cond.size]
  | not c =>
    have e : (Cond.not c).kids = [c] := rfl
    rw [e] at h1 e1
    simp only [List.length_singleton] at h1
    omega
  | grp s cs =>
    rw [Cond.thin, Bool.and_eq_true, Bool.or_eq_true, decide_eq_true_eq, decide_eq_true_eq] at h
    rw [Cond.kids] at h1 e1
    rcases h.1 with h | h <;> omega
section
variable {P : Program} {w : World} {K : PySem.W.Frag} {mg : Str → Option Value} {base : Heap} {cl : Cl} {xc : Xc}
def spBoundedX (cl : Cl) (xc : Xc) (C : Addr) : Sp := fun vs H Q E => ∃ (a dx : Addr) (fs : List (Str × V)) (c : Cond), vs = [.ref a] ∧ H a = some (.ins C dx fs) ∧ IsP cl H (.ref a) c ∧ c.depth ≤ 21 ∧ c.size ≤ 1000 ∧
  (c.big = false → ∀ (H' : Hp), Same H H' → Q .non H') ∧ (c.big = true → ∀ (H' : Hp), Same H H' → E (.ref xc.part) none H')
theorem disp_boundedX (T : TParts K mg cl) (X : TExc K mg xc) : DispAt P w K mg base (L2.CX P w) (fun C => C = cl.tn ∨ C = cl.sr ∨ C = cl.br) "bounded" 23 ["self"] (spBoundedX cl xc) := by
  have G_size : DispAt P w K mg base CX0 cl.has "size" 22 ["self"] (spSize cl 21) := disp_size T 21
  have G_depth : DispAt P w K mg base CX0 cl.has "depth" 22 ["self"] (spDepth cl 21) := disp_depth T 21
  have e_NoPart := X.e_part
  refine ⟨fun C hC => ?_⟩
  have hC' : cl.has C := by
    rcases hC with rfl | rfl | rfl
    · exact .inr (.inr (.inl rfl))
    · exact .inr (.inr (.inr (.inl rfl)))
    · exact .inr (.inr (.inr (.inr rfl)))
  have D : MethAt K C "bounded" "Part.bounded" s_Part_bounded ["self"] := by
    rcases hC with rfl | rfl | rfl
    · exact T.m_bounded_tn
    · exact T.m_bounded_sr
    · exact T.m_bounded_br
  refine methAt_okX (T.cls hC') D sc_Part_bounded (fun vs H Q E h => ?_) (fun f cdv A outer s H vs Q E hr h => ?_)
  · obtain ⟨a, dx, fs, c, rfl, _⟩ := h; rfl
  · obtain ⟨a, dx, fs, c, rfl, ha, p, hd, hz, q, qx⟩ := h
    refine ⟨_, (pss_one (ps_if (PW.pt (pw_or (pt_cmpR op_gt (pe_methD0 G_size hr pass0 (pv 0)) (pe_gc T.g_MOST_SIZE) (nomark _)) (pw_or1 (pt_cmpR op_gt (pe_methD0 G_depth hr pass0 (pv 0)) (pe_gc T.g_MOST_DEEP) (nomark _))))) (pss_one (ps_raiseO rfl e_NoPart (L2.takes_of rfl rfl rfl rfl))) pss_nil)), ?_⟩
    refine ⟨_, rfl, a, C, dx, fs, rfl, ha, hC', look_of (by decide +kernel) ha p, a, dx, fs, c, rfl, ha, p, hd, by omega, fun H1 s1 => ?_⟩
    refine ⟨_, _, rfl, rfl, _, rfl, ?_⟩
    have ha1 := s1 _ _ ha
    have p1 := p.mono (Same.imm (T := cl.has) s1)
    by_cases h1 : 60 < c.size
    · rw [decide_eq_true (show (60 : Int) < (c.size : Int) by omega)]
      exact iteT (qx (by unfold Cond.big; rw [decide_eq_true h1]; rfl) _ s1)
    · rw [decide_eq_false (show ¬ (60 : Int) < (c.size : Int) by omega)]
      refine iteF ⟨_, rfl, a, C, dx, fs, rfl, ha1, hC', look_of (by decide +kernel) ha p, a, dx, fs, c, rfl, ha1, p1, hd, by omega, fun H2 s2 => ?_⟩
      refine ⟨_, _, rfl, rfl, _, rfl, ?_⟩
      by_cases h2 : 20 < c.depth
      · rw [decide_eq_true (show (20 : Int) < (c.depth : Int) by omega)]
        exact iteT (qx (by unfold Cond.big; rw [decide_eq_true h2, Bool.or_true]) _ (s1.trans s2))
      · rw [decide_eq_false (show ¬ (20 : Int) < (c.depth : Int) by omega)]
        exact iteF (q (by unfold Cond.big; rw [decide_eq_false h1, decide_eq_false h2]; rfl) _ (s1.trans s2))
def spInitCtX (cl : Cl) (xc : Xc) : Sp := fun vs H Q E => ∃ (x dx : Addr) (n : Str), vs = [.ref x, .str n] ∧ H x = some (.ins cl.ct dx []) ∧ n.length ≤ sizeLine ∧
  (isName n = true → ∀ H' : Hp, H' x = some (.ins cl.ct dx [("name", .str n)]) → But x H H' → Q .non H') ∧ (isName n = false → E (.ref xc.name) none H)
def spInitTnX (cl : Cl) (xc : Xc) : Sp := fun vs H Q E => ∃ (H0 : Hp) (x dx : Addr) (v : V) (c : Cond), vs = [.ref x, v] ∧ H x = some (.ins cl.tn dx []) ∧ Same H0 H ∧ H0 x = none ∧ IsP cl H0 v c ∧ (Cond.not c).size ≤ 1000 ∧ (Cond.not c).depth ≤ 21 ∧
  ((Cond.not c).big = false → ∀ H' : Hp, Same H0 H' → IsP cl H' (.ref x) (.not c) → Q .non H') ∧ ((Cond.not c).big = true → ∀ H' : Hp, Same H0 H' → E (.ref xc.part) none H')
def spInitGrX (K : PySem.W.Frag) (cl : Cl) (xc : Xc) (s : Bool) : Sp := fun vs H Q E => ∃ (H0 : Hp) (x dx l : Addr) (ws : List V) (cs : List Cond), vs = [.ref x, .ref l] ∧ H x = some (.ins (cl.gr s) dx []) ∧ Same H0 H ∧ H0 x = none ∧ (SqL K H0 l ws ∨ (SqT K H0 l ws ∧ cs.length < 2)) ∧ IsPs cl H0 ws cs ∧
  (Cond.grp s cs).size ≤ 1000 ∧ (Cond.grp s cs).depth ≤ 21 ∧
  (2 ≤ cs.length → (Cond.grp s cs).big = false → ∀ H' : Hp, Same H0 H' → IsP cl H' (.ref x) (.grp s cs) → Q .non H') ∧ ((cs.length < 2 ∨ (Cond.grp s cs).big = true) → ∀ H' : Hp, Same H0 H' → E (.ref xc.part) none H')
theorem ok_init_ctX (T : TMake K mg cl) (X : TExc K mg xc) : MakAt P w K mg base (L2.CX P w) "Contact" cl.ct 3 ["self", "name"] (spInitCtX cl xc) := by
  have G_is_name : FnAt P w K mg base CX0 "is_name" 2 _ spIsName := ok_is_name T.names
  have e_NoName := X.e_name
  refine makAt_of T.parts.c_Contact (methAt_okX T.parts.c_Contact.cl T.i_ct sc_Contact___init__ (fun vs H Q E h => ?_) (fun f cdv A outer s H vs Q E hr h => ?_))
  · obtain ⟨x, dx, n, rfl, _⟩ := h; rfl
  · obtain ⟨x, dx, n, rfl, hx, hl, q, qx⟩ := h
    refine ⟨_, (pss_cons (ps_if (pt_not (pt_val (pe_callF G_is_name hr pass0 (pa_cons (pv 1) pa_nil)))) (pss_one (ps_raiseO rfl e_NoName (L2.takes_of rfl rfl rfl rfl))) pss_nil)
        (pss_one (ps_fld (pv 0) (pv 1) rfl))), ?_⟩
    refine ⟨_, rfl, n, rfl, hl, ?_⟩
    cases hn : isName n with
    | false => exact ⟨false, rfl, iteT (qx hn)⟩
    | true =>
      refine ⟨true, rfl, iteF ?_⟩
      refine ⟨_, rfl, _, rfl, x, _, dx, [], rfl, hx, T.parts.c_Contact.cl, T.parts.nn_ct, (by show 0 < 1000; decide), ?_⟩
      exact q hn _ upd_same But.upd
theorem ok_init_tnX (T : TMake K mg cl) (X : TExc K mg xc) : MakAt P w K mg base (L2.CX P w) "Turned" cl.tn 24 ["self", "part"] (spInitTnX cl xc) := by
  have GX_bounded : DispAt P w K mg base (L2.CX P w) (fun C => C = cl.tn ∨ C = cl.sr ∨ C = cl.br) "bounded" 23 ["self"] (spBoundedX cl xc) := disp_boundedX T.parts X
  refine makAt_of T.parts.c_Turned (methAt_okX T.parts.c_Turned.cl T.i_tn sc_Turned___init__ (fun vs H Q E h => ?_) (fun f cdv A outer s H vs Q E hr h => ?_))
  · obtain ⟨H0, x, dx, v, c, rfl, _⟩ := h; rfl
  · obtain ⟨H0, x, dx, v, c, rfl, hx, s0, n0, p, hz, hd, q, qx⟩ := h
    refine ⟨_, (pss_cons (ps_fld (pv 0) (pv 1) rfl)
        (pss_one (ps_expr (pe_methD0 GX_bounded hr (passX (L2.takes_of rfl rfl rfl rfl)) (pv 0))))), ?_⟩
    refine ⟨_, rfl, _, rfl, x, _, dx, [], rfl, hx, T.parts.c_Turned.cl, T.parts.np_tn, (by show 0 < 1000; decide), ?_⟩
    have s1 : Same H0 (upd H x (.ins cl.tn dx (putF "part" v []))) := Same.mut s0 n0
    have p1 : IsP cl (upd H x (.ins cl.tn dx (putF "part" v []))) (.ref x) (.not c) := .not upd_same (p.mono (Same.imm s1))
    exact ⟨_, rfl, x, _, dx, _, rfl, upd_same, .inl rfl, lk1 (by decide +kernel), x, dx, _, .not c, rfl, upd_same, p1, hd, hz, fun hb H2 s2 => q hb _ (s1.trans s2) (p1.mono (Same.imm s2)), fun hb H2 s2 => qx hb _ (s1.trans s2)⟩
theorem ok_init_grX (T : TMake K mg cl) (X : TExc K mg xc) (s : Bool) {nm : Str} (c : ClsAt K mg nm (cl.gr s)) (D : MethAt K (cl.gr s) "__init__" "Group.__init__" s_Group___init__ ["self", "parts"]) : MakAt P w K mg base (L2.CX P w) nm (cl.gr s) 24 ["self", "parts"] (spInitGrX K cl xc s) := by
  have GX_bounded : DispAt P w K mg base (L2.CX P w) (fun C => C = cl.tn ∨ C = cl.sr ∨ C = cl.br) "bounded" 23 ["self"] (spBoundedX cl xc) := disp_boundedX T.parts X
  have e_NoPart := X.e_part
  refine makAt_of c (methAt_okX c.cl D sc_Group___init__ (fun vs H Q E h => ?_) (fun f cdv A outer st H vs Q E hr h => ?_))
  · obtain ⟨H0, x, dx, l, ws, cs, rfl, _⟩ := h; rfl
  · obtain ⟨H0, x, dx, l, ws, cs, rfl, hx, s0, n0, hl, ps, hz, hd, q, qx⟩ := h
    have hlen := ps.length
    refine ⟨_, (pss_cons (ps_if (pt_cmpR op_lt (pe_callB call_len_seq (by rfl) T.z_len PySem.boot_len (pa_cons (pv 1) pa_nil)) pe_int (nomark _)) (pss_one (ps_raiseO rfl e_NoPart (L2.takes_of rfl rfl rfl rfl))) pss_nil)
        (pss_cons (ps_fld (pv 0) (pe_callTy call_tuple_of (by rfl) T.z_tuple (by decide +kernel) (pa_cons (pv 1) pa_nil)) rfl)
        (pss_one (ps_expr (pe_methD0 GX_bounded hr (passX (L2.takes_of rfl rfl rfl rfl)) (pv 0)))))), ?_⟩
    refine ⟨_, rfl, l, ws, rfl, (by rcases hl with hl | ⟨hl, _⟩; exact .inl (s0.seq hl); exact .inr (Ru.Same.seqT s0 hl)), _, _, rfl, rfl, _, rfl, ?_⟩
    by_cases h2 : cs.length < 2
    · rw [decide_eq_true (show ((ws.length : Int) < 2) by omega)]
      exact iteT (qx (.inl h2) _ s0)
    rw [decide_eq_false (show ¬ ((ws.length : Int) < 2) by omega)]
    have hl : SqL K H0 l ws := by
      rcases hl with hl | ⟨_, hl⟩
      · exact hl
      · exact absurd hl h2
    refine iteF ⟨_, rfl, l, ws, rfl, .inl ⟨s0.seq hl, fun t nt => ?_⟩⟩
    have hx1 : upd H t (.tup ws) x = some (.ins (cl.gr s) dx []) := Same.new nt _ _ hx
    have ntx : t ≠ x := (ne_of_none hx nt).symm
    refine ⟨_, rfl, x, _, dx, [], rfl, hx1, T.parts.cls (cl.has_gr s), T.parts.np s, (by show 0 < 1000; decide), ?_⟩
    have s1 : Same H0 (upd (upd H t (.tup ws)) x (.ins (cl.gr s) dx (putF "parts" (.ref t) []))) := Same.mut (s0.trans (Same.new nt)) n0
    have p1 : IsP cl (upd (upd H t (.tup ws)) x (.ins (cl.gr s) dx (putF "parts" (.ref t) []))) (.ref x) (.grp s cs) := .grp upd_same (by rw [upd_ne ntx, upd_same]) (ps.mono (Same.imm s1))
    exact ⟨_, rfl, x, _, dx, _, rfl, upd_same, (by cases s; exact .inr (.inr rfl); exact .inr (.inl rfl)), lk1 (by decide +kernel), x, dx, _, .grp s cs, rfl, upd_same, p1, hd, hz, fun hb H2 s2 => q (by omega) hb _ (s1.trans s2) (p1.mono (Same.imm s2)), fun hb H2 s2 => qx (.inr hb) _ (s1.trans s2)⟩
/-! ### single, joined -/
theorem mk_ctX {H : Hp} {n : Str} {Q : VK} {E : XK} (hl : n.length ≤ sizeLine) (k : isName n = true → ∀ H' x, Same H H' → IsP cl H' (.ref x) (.contact n) → Q (.ref x) H') (kx : isName n = false → ∀ H', Same H H' → E (.ref xc.name) none H') : ∀ x dx, H x = none → H dx = none → dx ≠ x → spInitCtX cl xc (.ref x :: ([.str n] ++ [])) (upd (upd H dx (.own x)) x (.ins cl.ct dx [])) (fun v H' => v = .non ∧ Q (.ref x) H') E :=
  fun x dx nx nd ne => ⟨x, dx, n, rfl, upd_same, hl, fun hn H' h1 h2 => ⟨rfl, k hn H' x (fun c o e => h2 c o (same_make nx nd c o e) (ne_of_none e nx)) (.contact h1)⟩, fun hn => kx hn _ (same_make nx nd)⟩
theorem mk_tnX {H : Hp} {v : V} {c : Cond} {Q : VK} {E : XK} (p : IsP cl H v c) (hz : (Cond.not c).size ≤ 1000) (hd : (Cond.not c).depth ≤ 21) (k : (Cond.not c).big = false → ∀ H' x, Same H H' → IsP cl H' (.ref x) (.not c) → Q (.ref x) H') (kx : (Cond.not c).big = true → ∀ H', Same H H' → E (.ref xc.part) none H') : ∀ x dx, H x = none → H dx = none → dx ≠ x → spInitTnX cl xc (.ref x :: ([v] ++ [])) (upd (upd H dx (.own x)) x (.ins cl.tn dx [])) (fun v H' => v = .non ∧ Q (.ref x) H') E :=
  fun x dx nx nd ne => ⟨H, x, dx, v, c, rfl, upd_same, same_make nx nd, nx, p, hz, hd, fun hb H' h1 h2 => ⟨rfl, k hb H' x h1 h2⟩, kx⟩
theorem mk_grX {H : Hp} {s : Bool} {l : Addr} {ws : List V} {cs : List Cond} {Q : VK} {E : XK} (hl : SqL K H l ws ∨ (SqT K H l ws ∧ cs.length < 2)) (p : IsPs cl H ws cs) (hz : (Cond.grp s cs).size ≤ 1000) (hd : (Cond.grp s cs).depth ≤ 21) (k : 2 ≤ cs.length → (Cond.grp s cs).big = false → ∀ H' x, Same H H' → IsP cl H' (.ref x) (.grp s cs) → Q (.ref x) H')
    (kx : (cs.length < 2 ∨ (Cond.grp s cs).big = true) → ∀ H', Same H H' → E (.ref xc.part) none H') :
    ∀ x dx, H x = none → H dx = none → dx ≠ x → spInitGrX K cl xc s (.ref x :: ([.ref l] ++ [])) (upd (upd H dx (.own x)) x (.ins (cl.gr s) dx [])) (fun v H' => v = .non ∧ Q (.ref x) H') E :=
  fun x dx nx nd ne => ⟨H, x, dx, l, ws, cs, rfl, upd_same, same_make nx nd, nx, hl, p, hz, hd, fun h2 hb H' h1 h3 => ⟨rfl, k h2 hb H' x h1 h3⟩, kx⟩
/-- what is told of a thing that is made, or refused -/
def Out (cl : Cl) (xc : Xc) (H : Hp) (c : Cond) (Q : VK) (E : XK) : Prop := (c.bad = none → ∀ (H' : Hp) (x : Addr), Same H H' → IsP cl H' (.ref x) c → Q (.ref x) H') ∧ ∀ e, c.bad = some e → ∀ (H' : Hp), Same H H' → E (.ref (xc.of e)) none H'
def spSingleX (cl : Cl) (xc : Xc) : Sp := fun vs H Q E => ∃ (v : V) (c : Cond), vs = [v] ∧ IsT H v c ∧ c.single = true ∧ (∀ n, c = .contact n → n.length ≤ sizeLine) ∧ Out cl xc H c Q E
theorem bad_ct {n : Str} : (Cond.contact n).bad = if isName n = true then none else some false := by rw [Cond.bad]
theorem ok_singleX (T : TPartOf K mg cl) (X : TExc K mg xc) : FnAt P w K mg base (L2.CX P w) "single" 5 ["told"] (spSingleX cl xc) := by
  have M_Fixed : MakAt P w K mg base CX0 "Fixed" cl.fx 1 ["self", "value"] (spInitFx cl) := ok_init_fx T.make
  have MX_Contact : MakAt P w K mg base (L2.CX P w) "Contact" cl.ct 3 ["self", "name"] (spInitCtX cl xc) := ok_init_ctX T.make X
  refine fnAt_okX T.d_single sc_single (fun vs H Q E h => ?_) (fun f cdv A outer s H vs Q E hr h => ?_)
  · obtain ⟨v, c, rfl, _⟩ := h; rfl
  · obtain ⟨v, c, rfl, ht, hs, hl, k, kx⟩ := h
    refine ⟨_, (pss_one (ps_ret (pe_ifExp (pt_cmpR op_eq (pe_ix ix_tup (pv 0) pe_int (fun _ _ => rfl)) pe_str (nomark _)) (pe_makeF M_Fixed hr pass0 (pa_cons (pe_ix ix_tup (pv 0) pe_int (fun _ _ => rfl)) pa_nil)) (pe_makeF MX_Contact hr (passX (L2.takes_of rfl rfl rfl rfl)) (pa_cons (pe_ix ix_tup (pv 0) pe_int (fun _ _ => rfl)) pa_nil))))), ?_⟩
    cases ht with
    | @fixed t b h =>
      refine ⟨_, rfl, t, _, 0, .str "fixed", rfl, rfl, SqT.of h, rfl, rfl, _, rfl, ?_⟩
      rw [decide_eq_true rfl]
      refine iteT ⟨_, rfl, t, _, 1, .bl b, rfl, rfl, SqT.of h, rfl, ?_⟩
      exact mk_fx fun H' x s' p => k rfl H' x s' p
    | @contact t n h =>
      refine ⟨_, rfl, t, _, 0, .str "contact", rfl, rfl, SqT.of h, rfl, rfl, _, rfl, ?_⟩
      rw [decide_eq_false (show ¬ (V.str "contact" = V.str "fixed") by decide +kernel)]
      refine iteF ⟨_, rfl, t, _, 1, .str n, rfl, rfl, SqT.of h, rfl, ?_⟩
      exact mk_ctX (hl n rfl) (fun hn H' x s' p => k (by rw [bad_ct, if_pos hn]) H' x s' p) fun hn H' s' => kx false (by rw [bad_ct, if_neg (by rw [hn]; exact Bool.false_ne_true)]) H' s'
    | not h p => cases hs
    | grp h p => cases hs
def spJoinedX (cl : Cl) (xc : Xc) : Sp := fun vs H Q E => ∃ (l : Addr) (ws : List V) (c : Cond), vs = [.str (kindS c), .ref l] ∧ H l = some (.lst ws) ∧ c.single = false ∧ IsPs cl H ws c.kids ∧ Cond.bads c.kids = none ∧ c.thin = true ∧ Out cl xc H c Q E
theorem bad_not {c : Cond} (h : c.bad = none) : (Cond.not c).bad = if (Cond.not c).big = true then some true else none := by rw [Cond.bad, h]
theorem bad_grp {s : Bool} {cs : List Cond} (h : Cond.bads cs = none) : (Cond.grp s cs).bad = if cs.length < 2 then some true else if (Cond.grp s cs).big = true then some true else none := by rw [Cond.bad, h]
theorem out_not {H : Hp} {c : Cond} {Q : VK} {E : XK} (h : c.bad = none) (o : Out cl xc H (.not c) Q E) : ((Cond.not c).big = false → ∀ H' x, Same H H' → IsP cl H' (.ref x) (.not c) → Q (.ref x) H') ∧ ((Cond.not c).big = true → ∀ H', Same H H' → E (.ref xc.part) none H') :=
  ⟨fun hb => o.1 (by rw [bad_not h, hb]; rfl), fun hb => o.2 true (by rw [bad_not h, hb]; rfl)⟩
theorem out_grp {H : Hp} {s : Bool} {cs : List Cond} {Q : VK} {E : XK} (h : Cond.bads cs = none) (o : Out cl xc H (.grp s cs) Q E) : (2 ≤ cs.length → (Cond.grp s cs).big = false → ∀ H' x, Same H H' → IsP cl H' (.ref x) (.grp s cs) → Q (.ref x) H') ∧ ((cs.length < 2 ∨ (Cond.grp s cs).big = true) → ∀ H', Same H H' → E (.ref xc.part) none H') :=
  ⟨fun h2 hb => o.1 (by rw [bad_grp h, if_neg (by omega), hb]; rfl), fun hb => o.2 true (by
    rw [bad_grp h]
    by_cases h2 : cs.length < 2
    · rw [if_pos h2]
    · rw [if_neg h2, hb.resolve_left h2]
      rfl)⟩
theorem ok_joinedX (T : TPartOf K mg cl) (X : TExc K mg xc) : FnAt P w K mg base (L2.CX P w) "joined" 26 ["kind", "parts"] (spJoinedX cl xc) := by
  have MX_Turned : MakAt P w K mg base (L2.CX P w) "Turned" cl.tn 24 ["self", "part"] (spInitTnX cl xc) := ok_init_tnX T.make X
  have MX_Series : MakAt P w K mg base (L2.CX P w) "Series" cl.sr 24 ["self", "parts"] (spInitGrX K cl xc true) := ok_init_grX T.make X true T.make.parts.c_Series T.make.i_sr
  have MX_Branch : MakAt P w K mg base (L2.CX P w) "Branch" cl.br 24 ["self", "parts"] (spInitGrX K cl xc false) := ok_init_grX T.make X false T.make.parts.c_Branch T.make.i_br
  refine fnAt_okX T.d_joined sc_joined (fun vs H Q E h => ?_) (fun f cdv A outer s H vs Q E hr h => ?_)
  · obtain ⟨l, ws, c, rfl, _⟩ := h; rfl
  · obtain ⟨l, ws, c, rfl, hl, hs, ps, hb, ht, o⟩ := h
    obtain ⟨hz, hd⟩ := thin_bound ht hb
    refine ⟨_, (pss_cons (ps_if (pt_cmpR op_eq (pv 0) pe_str (nomark _)) (pss_one (ps_ret (pe_makeF MX_Turned hr (passX (L2.takes_of rfl rfl rfl rfl)) (pa_cons (pe_ix ix_list (pv 1) pe_int (fun _ _ => rfl)) pa_nil)))) pss_nil)
        (pss_cons (ps_if (pt_cmpR op_eq (pv 0) pe_str (nomark _)) (pss_one (ps_ret (pe_makeF MX_Series hr (passX (L2.takes_of rfl rfl rfl rfl)) (pa_cons (pv 1) pa_nil)))) pss_nil)
        (pss_one (ps_ret (pe_makeF MX_Branch hr (passX (L2.takes_of rfl rfl rfl rfl)) (pa_cons (pv 1) pa_nil)))))), ?_⟩
    cases c with
    | fixed b => cases hs
    | contact n => cases hs
    | not c =>
      have hcb : c.bad = none := (Cond.bads_none hb).2 c (List.mem_singleton.mpr rfl)
      obtain ⟨v, rfl, p⟩ : ∃ v, ws = [v] ∧ IsP cl H v c := by
        cases ps with
        | cons p t => cases t; exact ⟨_, rfl, p⟩
      refine ⟨_, rfl, rfl, _, rfl, ?_⟩
      rw [decide_eq_true (show V.str (kindS (.not c)) = V.str "not" from rfl)]
      refine iteT ⟨_, rfl, l, _, 0, v, rfl, rfl, SqL.of hl, rfl, ?_⟩
      exact mk_tnX p hz hd (out_not hcb o).1 (out_not hcb o).2
    | grp s cs =>
      refine ⟨_, rfl, rfl, _, rfl, ?_⟩
      cases s with
      | true =>
        rw [decide_eq_false (show ¬ (V.str (kindS (.grp true cs)) = V.str "not") by show ¬ (V.str (Str.ofString "and") = V.str "not"); decide +kernel)]
        refine iteF ⟨_, rfl, rfl, _, rfl, ?_⟩
        rw [decide_eq_true (show V.str (kindS (.grp true cs)) = V.str "and" from rfl)]
        refine iteT ⟨_, rfl, ?_⟩
        exact mk_grX (.inl (SqL.of hl)) ps hz hd (out_grp hb o).1 (out_grp hb o).2
      | false =>
        rw [decide_eq_false (show ¬ (V.str (kindS (.grp false cs)) = V.str "not") by show ¬ (V.str (Str.ofString "or") = V.str "not"); decide +kernel)]
        refine iteF ⟨_, rfl, rfl, _, rfl, ?_⟩
        rw [decide_eq_false (show ¬ (V.str (kindS (.grp false cs)) = V.str "and") by show ¬ (V.str (Str.ofString "or") = V.str "and"); decide +kernel)]
        refine iteF ⟨_, rfl, ?_⟩
        exact mk_grX (.inl (SqL.of hl)) ps hz hd (out_grp hb o).1 (out_grp hb o).2
end

/-! ## part_of of what may be refused -/
theorem Cond.depth_le (c : Cond) : c.depth ≤ c.size := by
  have h1 := c.depth_kids
  have h2 := c.size_kids
  have h3 := Cond.depths_le c.kids
  omega
section
variable {P : Program} {w : World} {K : PySem.W.Frag} {mg : Str → Option Value} {base : Heap} {cl : Cl} {xc : Xc}
structure FrX (cl : Cl) (H0 H : Hp) (v : V) (f : Frame) : Prop where
  ex : ∃ (tp t : Addr) (ws : List V), v = .ref tp ∧ H tp = some (.tup [.ref t, .ref f.pl]) ∧ IsT H (.ref t) f.c ∧ H f.pl = some (.lst ws) ∧ IsPs cl H ws f.ds
  new : H0 f.pl = none
  pre : f.ds = f.c.kids.take f.ds.length
  sz : f.c.size ≤ 100000
  th : f.c.thin = true
  gd : Cond.bads f.ds = none
inductive StkX (cl : Cl) (H0 H : Hp) (root : Cond) : List V → List Frame → Prop
  | one {v : V} {f : Frame} (h : FrX cl H0 H v f) (hr : f.c = root) : StkX cl H0 H root [v] [f]
  | push {v : V} {vs : List V} {f g : Frame} {r : List Frame} (s : StkX cl H0 H root vs (g :: r)) (h : FrX cl H0 H v f) (hk : g.c.kids[g.ds.length]? = some f.c) (ne : ∀ e ∈ g :: r, e.pl ≠ f.pl) : StkX cl H0 H root (vs ++ [v]) (f :: g :: r)
theorem FrX.keep {H0 H H' : Hp} {v : V} {f : Frame} (k : Imm cl.has H H') (kl : ∀ ws, H f.pl = some (.lst ws) → H' f.pl = some (.lst ws)) (h : FrX cl H0 H v f) : FrX cl H0 H' v f := by
  obtain ⟨⟨tp, t, ws, e, h1, h2, h3, h4⟩, a, b, c, d, g⟩ := h
  exact ⟨⟨tp, t, ws, e, k _ _ h1 trivial, h2.mono k, kl _ h3, h4.mono k⟩, a, b, c, d, g⟩
theorem StkX.keep {H0 H H' : Hp} {root : Cond} (k : Imm cl.has H H') : ∀ {vs : List V} {fr : List Frame}, (∀ f ∈ fr, ∀ ws, H f.pl = some (.lst ws) → H' f.pl = some (.lst ws)) → StkX cl H0 H root vs fr → StkX cl H0 H' root vs fr
  | _, _, kl, .one h hr => .one (h.keep k (kl _ (List.mem_singleton.mpr rfl))) hr
  | _, _, kl, .push s h hk ne => .push (StkX.keep k (fun f hf => kl f (List.mem_cons_of_mem _ hf)) s) (h.keep k (kl _ List.mem_cons_self)) hk ne
theorem StkX.ne {H0 H : Hp} {root : Cond} {vs : List V} {fr : List Frame} (s : StkX cl H0 H root vs fr) : fr ≠ [] ∧ vs ≠ [] := by
  cases s <;> simp
theorem StkX.len {H0 H : Hp} {root : Cond} : ∀ {vs : List V} {fr : List Frame}, StkX cl H0 H root vs fr → vs.length = fr.length
  | _, _, .one _ _ => rfl
  | _, _, .push s _ _ _ => by rw [List.length_append, StkX.len s]; rfl
/-- the deeper, the smaller -/
theorem StkX.deep {H0 H : Hp} {root : Cond} : ∀ {vs : List V} {fr : List Frame} {f : Frame} {r : List Frame}, StkX cl H0 H root vs fr → fr = f :: r → r.length + f.c.depth ≤ root.depth
  | _, _, _, _, .one h hr, e => by
    cases e
    rw [hr]
    simp
  | _, _, _, _, .push (g := g) s h hk ne, e => by
    cases e
    have ih := StkX.deep s rfl
    have h1 := Cond.depth_mem (List.mem_of_getElem? hk)
    have h2 := g.c.depth_kids
    rw [List.length_cons]
    omega
theorem StkX.lists {H0 H : Hp} {root : Cond} : ∀ {vs : List V} {fr : List Frame}, StkX cl H0 H root vs fr → ∀ f ∈ fr, ∃ ws, H f.pl = some (.lst ws)
  | _, _, .one h hr, f, hf => by
    obtain ⟨⟨tp, t, ws, e, h1, h2, h3, h4⟩, _⟩ := h
    rw [List.mem_singleton.mp hf]
    exact ⟨_, h3⟩
  | _, _, .push s h hk ne, f, hf => by
    rcases List.mem_cons.mp hf with rfl | hf
    · obtain ⟨⟨tp, t, ws, e, h1, h2, h3, h4⟩, _⟩ := h
      exact ⟨_, h3⟩
    · exact StkX.lists s f hf
/-- what is wrong with the top one is what is wrong -/
theorem StkX.bad {H0 H : Hp} {root : Cond} {e : Bool} : ∀ {vs : List V} {fr : List Frame} {f : Frame} {r : List Frame}, StkX cl H0 H root vs fr → fr = f :: r → f.c.bad = some e → root.bad = some e
  | _, _, _, _, .one h hr, e1, he => by
    cases e1
    rw [← hr]
    exact he
  | _, _, _, _, .push (g := g) s h hk ne, e1, he => by
    cases e1
    have hg : ∃ v, FrX cl H0 H v g := by
      cases s with
      | one h hr => exact ⟨_, h⟩
      | push s h hk ne => exact ⟨_, h⟩
    obtain ⟨_, hg⟩ := hg
    have h1 : Cond.bads (g.c.kids.take g.ds.length) = none := by
      rw [← hg.pre]
      exact hg.gd
    exact StkX.bad s rfl (Cond.bad_kids (Cond.bads_at h1 hk he))
/-- the top one is another one -/
theorem StkX.swap {H0 H H' : Hp} {root : Cond} {vs vs1 : List V} {v1 : V} {g g' : Frame} {r : List Frame} (s : StkX cl H0 H root vs (g :: r)) (k : Imm cl.has H H') (kl : ∀ e : Frame, e.pl ≠ g.pl → ∀ ws, H e.pl = some (.lst ws) → H' e.pl = some (.lst ws)) (ev : vs = vs1 ++ [v1]) (h : FrX cl H0 H' v1 g') (ec : g'.c = g.c) (ep : g'.pl = g.pl) : StkX cl H0 H' root vs (g' :: r) := by
  cases s with
  | @one v _ h0 hr =>
    have e1 : vs1 = [] ∧ v = v1 := by
      cases vs1 with
      | nil => exact ⟨rfl, by simpa using ev⟩
      | cons a b => simp at ev
    obtain ⟨rfl, rfl⟩ := e1
    exact .one h (ec.trans hr)
  | @push v vs0 _ g0 r0 s h0 hk ne =>
    have e1 := List.append_inj_left' ev rfl
    have e2 : v = v1 := by
      have := List.append_inj_right' ev rfl
      simpa using this
    subst e1 e2
    exact .push (s.keep k fun e he ws hw => kl e (ne e he) ws hw) h (by rw [ec]; exact hk) (fun e he => by rw [ep]; exact ne e he)
def spPartOfX (cl : Cl) (xc : Xc) : Sp := fun vs H Q E => ∃ (v : V) (c : Cond), vs = [v] ∧ IsT H v c ∧ c.thin = true ∧ c.size ≤ 100000 ∧ Out cl xc H c Q E
/-- the invariant of the loop -/
def PInvX (cl : Cl) (H0 : Hp) (told : V) (op : Addr) (root : Cond) (m : Nat) (σ : L2.St) (H : Hp) : Prop :=
  ∃ (vs : List V) (fr : List Frame) (x : V) (o1 o2 o3 : Option V), σ = [some told, some (.ref op), some x, o1, o2, o3] ∧ H op = some (.lst vs) ∧ H0 op = none ∧ Same H0 H ∧ m = mu fr ∧
    ((fr = [] ∧ vs = [] ∧ root.bad = none ∧ ∃ a, x = .ref a ∧ IsP cl H x root) ∨ (StkX cl H0 H root vs fr ∧ ∀ f ∈ fr, f.pl ≠ op))
theorem ok_part_ofX (T : TPartOf K mg cl) (X : TExc K mg xc) : FnAt P w K mg base (L2.CX P w) "part_of" 27 ["told"] (spPartOfX cl xc) := by
  have GX_single : FnAt P w K mg base (L2.CX P w) "single" 5 _ (spSingleX cl xc) := ok_singleX T X
  have GX_joined : FnAt P w K mg base (L2.CX P w) "joined" 26 _ (spJoinedX cl xc) := ok_joinedX T X
  refine fnAt_okX T.d_part_of sc_part_of (fun vs H Q E h => ?_) (fun f cdv A outer s H vs Q E hr h => ?_)
  · obtain ⟨v, c, rfl, _⟩ := h; rfl
  · obtain ⟨v, root, rfl, ht, hth, hz, k, kx⟩ := h
    have hdz := root.depth_le
    obtain ⟨t0, x0, rfl, ht0⟩ := ht.ref
    refine ⟨_, (pss_cons (ps_set (i := 1) sc_part_of.nd rfl (by first | exact Or.inl rfl | exact Or.inr rfl) (pe_lst (pa_cons (pe_tup (pa_cons (pv 0) (pa_cons (pe_lst pa_nil) pa_nil))) pa_nil)))
        (pss_cons (ps_set (i := 2) sc_part_of.nd rfl (by first | exact Or.inl rfl | exact Or.inr rfl) pe_non)
        (pss_cons (ps_while (L2.passes_of rfl) (pt_cmpR (op_neE hr.units0) (pv 1) (pe_lst pa_nil) (nomark _)) (pss_cons (ps_asg (pe_ix ix_list (pv 1) (pe_un un_neg pe_int) (fun _ _ => rfl)) (pg_tup rfl (pgs_cons (pg_name (i := 3) sc_part_of.nd rfl (by first | exact Or.inl rfl | exact Or.inr rfl)) (pgs_cons (pg_name (i := 4) sc_part_of.nd rfl (by first | exact Or.inl rfl | exact Or.inr rfl)) pgs_nil))))
          (pss_cons (ps_set (i := 5) sc_part_of.nd rfl (by first | exact Or.inl rfl | exact Or.inr rfl) (pe_cmpR op_in_seq (pe_ix ix_tup (pv 3) pe_int (fun _ _ => rfl)) (pe_tup (pa_cons pe_str (pa_cons pe_str pa_nil))) rfl))
          (C8.pss_cut (ps_if (PW.pt (pw_and (pt_not (pt_val (pv 5))) (pw_and1 (pt_cmpR op_lt (pe_callB call_len_seq (by rfl) T.z_len PySem.boot_len (pa_cons (pv 4) pa_nil)) (pe_op op_sub (pe_callB call_len_seq (by rfl) T.z_len PySem.boot_len (pa_cons (pv 3) pa_nil)) pe_int) (nomark _))))) (pss_cons (ps_expr (pe_bm PySem.F.plainAttrs_list PySem.F.slot_list_append PySem.F.type_list_append mt_append (pv 1) (pa_cons (pe_tup (pa_cons (pe_ix ix_tup (pv 3) (pe_op op_add pe_int (pe_callB call_len_seq (by rfl) T.z_len PySem.boot_len (pa_cons (pv 4) pa_nil))) (fun _ _ => rfl)) (pa_cons (pe_lst pa_nil) pa_nil))) pa_nil)))
            (pss_one ps_continue)) pss_nil)
          (C8.pss_cut (ps_expr (pe_bm0 PySem.F.plainAttrs_list PySem.F.slot_list_pop PySem.F.type_list_pop mt_pop (pv 1)))
          (C8.pss_cut (ps_set (i := 2) sc_part_of.nd rfl (by first | exact Or.inl rfl | exact Or.inr rfl) (pe_ifExp (pt_val (pv 5)) (pe_callF GX_single hr (passX (L2.takes_of rfl rfl rfl rfl)) (pa_cons (pv 3) pa_nil)) (pe_callF GX_joined hr (passX (L2.takes_of rfl rfl rfl rfl)) (pa_cons (pe_ix ix_tup (pv 3) pe_int (fun _ _ => rfl)) (pa_cons (pv 4) pa_nil)))))
          (pss_one (ps_if (pt_cmpR (op_neE hr.units0) (pv 1) (pe_lst pa_nil) (nomark _)) (pss_one (ps_expr (pe_bm PySem.F.plainAttrs_list PySem.F.slot_list_append PySem.F.type_list_append mt_append (pe_ix ix_tup (pe_ix ix_list (pv 1) (pe_un un_neg pe_int) (fun _ _ => rfl)) pe_int (fun _ _ => rfl)) (pa_cons (pv 2) pa_nil)))) pss_nil))))))))
        (pss_one (ps_ret (pv 2)))))), ?_⟩
    refine ⟨_, rfl, Nat.zero_le _, fun p1 n1 => ⟨line_ge (by simp), fun tp n2 => ⟨line_ge (by simp), fun op n3 => ?_⟩⟩⟩
    have s1 : Same H (upd H p1 (.lst [])) := Same.new n1
    have s2 : Same (upd H p1 (.lst [])) (upd (upd H p1 (.lst [])) tp (.tup [.ref t0, .ref p1])) := Same.new n2
    have s3 : Same (upd (upd H p1 (.lst [])) tp (.tup [.ref t0, .ref p1])) (upd (upd (upd H p1 (.lst [])) tp (.tup [.ref t0, .ref p1])) op (.lst [.ref tp])) := Same.new n3
    have n3' : H op = none := s1.free (s2.free n3)
    have hpo : p1 ≠ op := ne_of_none (s2 _ _ upd_same) n3
    refine ⟨PInvX cl H (.ref t0) op root, ⟨mu [⟨root, [], p1⟩], [.ref tp], [⟨root, [], p1⟩], .non, none, none, none, rfl, upd_same, n3', s1.trans (s2.trans s3), rfl, .inr ⟨.one ⟨⟨tp, t0, [], rfl, s3 _ _ upd_same, ?_, s3 _ _ (s2 _ _ upd_same), .nil⟩, n1, rfl, hz, hth, rfl⟩ rfl, ?_⟩⟩, ?_⟩
    · exact ht.mono (T := cl.has) (Same.imm (s1.trans (s2.trans s3)))
    · intro f hf
      rw [List.mem_singleton.mp hf]
      exact hpo
    rintro m σ H1 ⟨vs, fr, x, o1, o2, o3, rfl, hop, nop, sm, rfl, hst⟩
    refine ⟨_, rfl, Nat.zero_le _, fun q nq => ⟨op, q, vs, rfl, rfl, SqL.of (Same.new nq _ _ hop), SqL.of upd_same, _, rfl, ?_⟩⟩
    rcases hst with ⟨rfl, rfl, hrb, a, rfl, hp⟩ | ⟨hst, hno⟩
    · refine iteF ?_
      walk_at "rd"
      exact k hrb _ _ (sm.trans (Same.new nq)) (hp.mono (Imm.new nq))
    · have hvs : vs.isEmpty = false := by
        have := hst.ne.2
        cases vs with
        | nil => exact absurd rfl this
        | cons => rfl
      rw [hvs]
      refine iteT ⟨fun σ' H' => ∃ m', m' < mu fr ∧ PInvX cl H (.ref t0) op root m' σ' H', fun σ' H' h => h, ?_⟩
      -- the top of the stack
      obtain ⟨ws0, v, f, r, evs, efr, hf⟩ : ∃ ws0 v f r, vs = ws0 ++ [v] ∧ fr = f :: r ∧ FrX cl H H1 v f := by
        cases hst with
        | one h hr => exact ⟨[], _, _, _, rfl, rfl, h⟩
        | push s h hk ne => exact ⟨_, _, _, _, rfl, rfl, h⟩
      obtain ⟨⟨tp, t, ws, rfl, h1, h2, h3, h4⟩, fnew, fpre, fsz, fth, fgd⟩ := hf
      have sq : Same H1 (upd H1 q (.lst [])) := Same.new nq
      obtain ⟨rest, hsh, hki⟩ := h2.shape
      refine ⟨_, rfl, 1, rfl, op, vs, -1, .ref tp, rfl, rfl, SqL.of (sq _ _ hop), by rw [evs]; exact atI_last _ _, ?_⟩
      refine ⟨tp, _, rfl, SqT.of (sq _ _ h1), rfl, _, _, rfl, ?_⟩
      walk_at "rd"
      refine ⟨t, _, 0, .str (kindS f.c), rfl, rfl, SqT.of (sq _ _ hsh), atI_int (by decide) rfl, line_ge (by simp), fun q2 nq2 => ⟨q2, _, rfl, .inr (SqT.of upd_same), rfl, rfl, ?_⟩⟩
      have e1 : (V.bl (if false = true then !inV (.str (kindS f.c)) [.str "fixed", .str "contact"] else inV (.str (kindS f.c)) [.str "fixed", .str "contact"])) = .bl f.c.single := by
        rw [if_neg Bool.false_ne_true, single_in]
      rw [e1]
      have sq2 : Same H1 (upd (upd H1 q (.lst [])) q2 (.tup [.str "fixed", .str "contact"])) := sq.trans (Same.new nq2)
      generalize (upd (upd H1 q (.lst [])) q2 (.tup [.str "fixed", .str "contact"])) = H2 at sq2 ⊢
      clear e1
      have hn2 : H2 f.pl = some (.lst ws) := sq2 _ _ h3
      have hp2 := h4.length
      have hds : f.ds.length ≤ f.c.kids.length := by
        have := congrArg List.length fpre
        rw [List.length_take] at this
        omega
      refine ⟨fun σ' H' => σ' = [some (.ref t0), some (.ref op), some x, some (.ref t), some (.ref f.pl), some (.bl f.c.single)] ∧ Same H1 H' ∧ f.ds.length = f.c.kids.length, ?_, ?_⟩
      · walk_at "rd"
        cases hsg : f.c.single with
        | true =>
          refine iteF ⟨sq2, ?_⟩
          have e := single_kids hsg
          rw [e] at hds ⊢
          simp at hds
          rw [hds]
        | false =>
          have hki' := hki hsg
          have hrl := hki'.length
          refine iteT ⟨ws, .inl (SqL.of hn2), _, .inr (SqT.of (sq2 _ _ hsh)), ?_⟩
          by_cases hlt : f.ds.length < f.c.kids.length
          · rw [decide_eq_true (show ((ws.length : Nat) : Int) < (((V.str (kindS f.c) :: rest).length : Nat) : Int) - 1 by rw [List.length_cons]; omega)]
            refine iteT ?_
            -- the next part is opened
            obtain ⟨c', hc'⟩ : ∃ c', f.c.kids[f.ds.length]? = some c' := ⟨_, List.getElem?_eq_getElem hlt⟩
            obtain ⟨v', hv'⟩ : ∃ v', rest[f.ds.length]? = some v' := ⟨_, List.getElem?_eq_getElem (by omega)⟩
            obtain ⟨c2, hc2, ht'⟩ := hki'.at hv'
            rw [hc'] at hc2
            cases hc2
            obtain ⟨t', x', rfl, ht2⟩ := ht'.ref
            refine ⟨_, rfl, .inl ⟨rfl, _, SqL.of (sq2 _ _ hop)⟩, ?_⟩
            walk_at "rd"
            refine ⟨ws, .inl (SqL.of hn2), t, _, _, .ref t', rfl, rfl, SqT.of (sq2 _ _ hsh), atI_int (by omega) ?_, line_ge (by simp), fun pl' npl' => ⟨line_ge (by simp), fun tp' ntp' => ?_⟩⟩
            · have e : ((1 : Int) + (ws.length : Nat)).toNat = f.ds.length + 1 := by omega
              rw [e, List.getElem?_cons_succ]
              exact hv'
            have sA : Same H1 (upd (upd H2 pl' (.lst [])) tp' (.tup [.ref t', .ref pl'])) := (sq2.trans (Same.new npl')).trans (Same.new ntp')
            have nplH : H1 pl' = none := sq2.free npl'
            refine ⟨op, vs, _, rfl, rfl, sA _ _ hop, ?_, ?_⟩
            · have h1 := hst.len
              have h2 := hst.deep efr
              have h3 := f.c.depth_pos
              rw [efr, List.length_cons] at h1
              exact (by rw [sizeLine_eq]; omega)
            have hplo : pl' ≠ op := (ne_of_none hop nplH).symm
            have hplr : ∀ e ∈ fr, e.pl ≠ pl' := by
              intro e he q
              have h := StkX.lists hst e he
              obtain ⟨ws', hw⟩ := h
              rw [q, nplH] at hw
              cases hw
            have kp : Imm cl.has H1 (upd (upd (upd H2 pl' (.lst [])) tp' (.tup [.ref t', .ref pl'])) op (.lst (vs ++ [.ref tp']))) := (Same.imm sA).trans (Imm.mut (sA _ _ hop) id)
            have kl : ∀ g ∈ fr, ∀ ws, H1 g.pl = some (.lst ws) → upd (upd (upd H2 pl' (.lst [])) tp' (.tup [.ref t', .ref pl'])) op (.lst (vs ++ [.ref tp'])) g.pl = some (.lst ws) := by
              intro g hg ws hw
              rw [upd_ne (hno g hg)]
              exact sA _ _ hw
            have hck : c' ∈ f.c.kids := List.mem_of_getElem? hc'
            have z1 := Cond.size_mem hck
            have z2 := Cond.depth_mem hck
            have z3 := f.c.size_kids
            have z4 := f.c.depth_kids
            have hnew : FrX cl H (upd (upd (upd H2 pl' (.lst [])) tp' (.tup [.ref t', .ref pl'])) op (.lst (vs ++ [.ref tp']))) (.ref tp') ⟨c', [], pl'⟩ := by
              have ntpo : tp' ≠ op := (ne_of_none ((sq2.trans (Same.new npl')) _ _ hop) ntp').symm
              refine ⟨⟨tp', t', [], rfl, ?_, ?_, ?_, .nil⟩, sm.free nplH, rfl, (show c'.size ≤ 100000 by omega), Cond.thins_mem (Cond.thin_kids fth) hck, rfl⟩
              · rw [upd_ne ntpo, upd_same]
              · exact ht'.mono kp
              · rw [upd_ne hplo]
                exact Same.new ntp' _ _ upd_same
            rw [efr] at hst kl hplr hno ⊢
            refine ⟨_, mu_push (f := ⟨c', [], pl'⟩) hc' rfl, vs ++ [.ref tp'], _, x, _, _, _, rfl, upd_same, nop, Same.mut (sm.trans sA) nop, rfl, .inr ⟨.push (hst.keep kp kl) hnew hc' hplr, fun g hg => ?_⟩⟩
            rcases List.mem_cons.mp hg with rfl | hg
            · exact hplo
            · exact hno g hg
          · rw [decide_eq_false (show ¬ ((ws.length : Nat) : Int) < (((V.str (kindS f.c) :: rest).length : Nat) : Int) - 1 by rw [List.length_cons]; omega)]
            exact iteF ⟨sq2, by omega⟩
      rintro σ' H3 ⟨rfl, s3', hfull⟩
      have hop3 := s3' _ _ hop
      have hkids : f.ds = f.c.kids := by rw [fpre, hfull, List.take_of_length_le (Nat.le_refl _)]
      refine ⟨fun σ' H' => σ' = [some (.ref t0), some (.ref op), some x, some (.ref t), some (.ref f.pl), some (.bl f.c.single)] ∧ H' = upd H3 op (.lst ws0), ?_, ?_⟩
      · refine ⟨_, rfl, .inl ⟨rfl, _, SqL.of hop3⟩, op, vs, .ref tp, rfl, rfl, hop3, ?_, rfl, ?_⟩
        · rw [evs]
          simp
        · rw [evs, List.dropLast_concat]
      rintro σ' H4 ⟨rfl, e4⟩
      have i4 : Imm cl.has H3 H4 := by
        rw [e4]
        exact Imm.mut hop3 id
      have l4 : ∀ g ∈ fr, ∀ ws, H3 g.pl = some (.lst ws) → H4 g.pl = some (.lst ws) := by
        intro g hg ws hw
        rw [e4, upd_ne (hno g hg)]
        exact hw
      have i14 : Imm cl.has H1 H4 := (Same.imm s3').trans i4
      have o4 : H4 op = some (.lst ws0) := by
        rw [e4, upd_same]
      have sm4 : Same H H4 := by
        rw [e4]
        exact Same.mut (sm.trans s3') nop
      have st4 : StkX cl H H4 root vs fr := (hst.keep (Same.imm s3') (fun g hg ws hw => s3' _ _ hw)).keep i4 l4
      clear e4
      refine ⟨fun σ' H' => ∃ y, σ' = [some (.ref t0), some (.ref op), some (.ref y), some (.ref t), some (.ref f.pl), some (.bl f.c.single)] ∧ Same H4 H' ∧ IsP cl H' (.ref y) f.c ∧ f.c.bad = none, ?_, ?_⟩
      · have h24 := h2.mono i14
        have hx : ∀ e, f.c.bad = some e → ∀ H', Same H4 H' → E (.ref (xc.of e)) none H' := fun e he H' s' => kx e (hst.bad efr he) H' (sm4.trans s')
        refine ⟨_, rfl, _, rfl, ?_⟩
        cases hsg : f.c.single with
        | true => exact iteT ⟨_, rfl, .ref t, f.c, rfl, h24, hsg, fun n e => by rw [e, Cond.thin] at fth; exact line_ge (of_decide_eq_true fth), fun hb H5 y s5 p5 => ⟨y, rfl, s5, p5, hb⟩, fun e he H5 s5 => hx e he H5 s5⟩
        | false =>
          refine iteF ⟨_, rfl, t, _, 0, .str (kindS f.c), rfl, rfl, SqT.of (i14 _ _ hsh trivial), atI_int (by decide) rfl, _, rfl, f.pl, ws, f.c, rfl, ?_, hsg, ?_, ?_, fth, fun hb H5 y s5 p5 => ⟨y, rfl, s5, p5, hb⟩, fun e he H5 s5 => hx e he H5 s5⟩
          · exact l4 f (by rw [efr]; exact List.mem_cons_self) _ (s3' _ _ h3)
          · rw [← hkids]
            exact h4.mono i14
          · rw [← hkids]
            exact fgd
      rintro σ' H5 ⟨y, rfl, s5, p5, fbad⟩
      refine ⟨_, rfl, Nat.zero_le _, fun q3 nq3 => ⟨op, q3, ws0, rfl, rfl, SqL.of (Same.new nq3 _ _ (s5 _ _ o4)), SqL.of upd_same, _, rfl, ?_⟩⟩
      have s46 : Same H4 (upd H5 q3 (.lst [])) := s5.trans (Same.new nq3)
      have p6 : IsP cl (upd H5 q3 (.lst [])) (.ref y) f.c := p5.mono (Imm.new nq3)
      generalize upd H5 q3 (.lst []) = H6 at s46 p6 ⊢
      cases r with
      | nil =>
        have ews : ws0 = [] := by
          have h := hst.len
          rw [efr, evs] at h
          simpa using h
        subst ews
        refine iteF ⟨0, by rw [efr]; exact Nat.lt_of_lt_of_le Nat.zero_lt_one (Nat.le_add_right 1 _), [], [], .ref y, _, _, _, rfl, s46 _ _ o4, nop, sm4.trans s46, rfl, .inl ⟨rfl, rfl, ?_, y, rfl, ?_⟩⟩
        · rw [efr] at hst
          cases hst with
          | one h hr => rw [← hr]; exact fbad
        · rw [efr] at hst
          cases hst with
          | one h hr => rw [← hr]; exact p6
      | cons g r =>
        rw [efr, evs] at st4
        obtain ⟨sg, hk, ne⟩ : StkX cl H H4 root ws0 (g :: r) ∧ g.c.kids[g.ds.length]? = some f.c ∧ ∀ e ∈ g :: r, e.pl ≠ f.pl := by
          generalize he : ws0 ++ [V.ref tp] = vv at st4
          cases st4 with
          | push s h hk ne =>
            have := List.append_inj_left' he rfl
            subst this
            exact ⟨s, hk, ne⟩
        have sg6 : StkX cl H H6 root ws0 (g :: r) := sg.keep (Same.imm s46) (fun e _ ws hw => s46 _ _ hw)
        obtain ⟨vs1, v1, ev1, hg1⟩ : ∃ vs1 v1, ws0 = vs1 ++ [v1] ∧ FrX cl H H6 v1 g := by
          cases sg6 with
          | one h hr => exact ⟨[], _, rfl, h⟩
          | push s h hk ne => exact ⟨_, _, rfl, h⟩
        obtain ⟨⟨tg, tt, wg, rfl, g1, g2, g3, g4⟩, gnew, gpre, gsz, gth, ggd⟩ := hg1
        have hne : ws0.isEmpty = false := by rw [ev1]; simp
        rw [hne]
        have o6 := s46 _ _ o4
        refine iteT ⟨_, rfl, 1, rfl, op, ws0, -1, .ref tg, rfl, rfl, SqL.of o6, by rw [ev1]; exact atI_last _ _, tg, _, 1, .ref g.pl, rfl, rfl, SqT.of g1, rfl, .inl ⟨rfl, _, SqL.of g3⟩, ?_⟩
        have hwl := g4.length
        have hgl : g.ds.length < g.c.kids.length := (List.getElem?_eq_some_iff.mp hk).1
        have hz3 := Cond.len_sizes g.c.kids
        have hz4 := g.c.size_kids
        refine ⟨_, rfl, g.pl, wg, .ref y, rfl, rfl, g3, (by rw [sizeLine_eq]; omega), ?_⟩
        have ngo : g.pl ≠ op := hno g (by rw [efr]; exact List.mem_cons_of_mem _ List.mem_cons_self)
        refine ⟨mu (⟨g.c, g.ds ++ [f.c], g.pl⟩ :: r), ?_, ws0, ⟨g.c, g.ds ++ [f.c], g.pl⟩ :: r, .ref y, _, _, _, rfl, ?_, nop, Same.mut (sm4.trans s46) gnew, rfl, .inr ⟨?_, ?_⟩⟩
        · rw [efr]
          exact mu_pop rfl (by simp)
        · rw [upd_ne ngo.symm]
          exact o6
        · have i7 : Imm cl.has H6 (upd H6 g.pl (.lst (wg ++ [.ref y]))) := Imm.mut g3 id
          have hfr : FrX cl H (upd H6 g.pl (.lst (wg ++ [.ref y]))) (.ref tg) ⟨g.c, g.ds ++ [f.c], g.pl⟩ := by
            refine ⟨⟨tg, tt, wg ++ [.ref y], rfl, i7 _ _ g1 trivial, g2.mono i7, upd_same, (g4.mono i7).snoc (p6.mono i7)⟩, gnew, ?_, gsz, gth, ?_⟩
            · show g.ds ++ [f.c] = g.c.kids.take (g.ds ++ [f.c]).length
              rw [List.length_append, List.length_singleton, List.take_succ, hk, ← gpre]
              rfl
            · show Cond.bads (g.ds ++ [f.c]) = none
              rw [Cond.bads_app ggd, Cond.bads, fbad]
              rfl
          exact sg6.swap i7 (fun e he => by
            intro ws hw
            rw [upd_ne he]
            exact hw) ev1 hfr rfl rfl
        · intro e he
          rcases List.mem_cons.mp he with rfl | he
          · exact ngo
          · exact hno e (by rw [efr]; exact List.mem_cons_of_mem _ (List.mem_cons_of_mem _ he))
end

/-! ## k05: how the law tells what it saw -/
abbrev s__law_kind : Stmt := top 38
theorem sc__law_kind : FnScope ["_law_e"] ["_law_e"] (defScope s__law_kind) := ⟨rfl, rfl, rfl, by decide +kernel, rfl, by decide +kernel, by decide +kernel⟩
abbrev s__law_made : Stmt := top 39
theorem sc__law_made : FnScope ["_law_way", "_law_thing"] ["_law_way", "_law_thing"] (defScope s__law_made) := ⟨rfl, rfl, rfl, by decide +kernel, rfl, by decide +kernel, by decide +kernel⟩
abbrev s__law_told : Stmt := top 40
theorem sc__law_told : FnScope ["_law_way", "_law_thing", "_law_part", "_law_e"] ["_law_way", "_law_thing"] (defScope s__law_told) := ⟨rfl, rfl, rfl, by decide +kernel, rfl, by decide +kernel, by decide +kernel⟩
/-- the other classes of errors -/
structure Xo where
  end_ : Addr
  ladder : Addr
  match_ : Addr
  row : Addr
  sheet : Addr
  state : Addr
  text : Addr
  many : Addr
structure TKind (K : PySem.W.Frag) (mg : Str → Option Value) (cl : Cl) (xc : Xc) (xo : Xo) : Prop where
  ref : TRef K mg cl xc
  e_end : ExcAt K mg "NoEnd" xo.end_ xc.err
  e_ladder : ExcAt K mg "NoLadder" xo.ladder xc.err
  e_match : ExcAt K mg "NoMatch" xo.match_ xc.err
  e_row : ExcAt K mg "NoRow" xo.row xc.err
  e_sheet : ExcAt K mg "NoSheet" xo.sheet xc.err
  e_state : ExcAt K mg "NoState" xo.state xc.err
  e_text : ExcAt K mg "NoText" xo.text xc.err
  e_many : ExcAt K mg "TooMany" xo.many xc.err
  ndx : [xc.err, xc.name, xc.part, xo.end_, xo.ladder, xo.match_, xo.row, xo.sheet, xo.state, xo.text, xo.many].Nodup
  d_kind : DefAt K mg "_law_kind" s__law_kind ["_law_e"]
  d_made : DefAt K mg "_law_made" s__law_made ["_law_way", "_law_thing"]
  d_told : DefAt K mg "_law_told" s__law_told ["_law_way", "_law_thing"]
  z_isinstance : mg "isinstance" = none
  z_ValueError : mg "ValueError" = none
  z_int : mg "int" = none
def kindT (b : Bool) : Str := if b then "part" else "name"
def spKind (xc : Xc) (a : Addr) (c : Value) (d : Option Addr) : Sp := fun vs H Q _ => ∃ b : Bool, vs = [.ref a] ∧ c = .ref (xc.of b) ∧ d = none ∧ ∀ H', Same H H' → Q (.str (kindT b)) H'
section
variable {P : Program} {w : World} {K : PySem.W.Frag} {mg : Str → Option Value} {base : Heap} {cl : Cl} {xc : Xc} {xo : Xo}
theorem TExc.of (T : TExc K mg xc) (b : Bool) : ∃ x, ExcAt K mg x (xc.of b) xc.err := by
  cases b
  · exact ⟨_, T.e_name⟩
  · exact ⟨_, T.e_part⟩
theorem ok_kind (T : TKind K mg cl xc xo) : FnPAt P w K mg base CX0 "_law_kind" 1 ["_law_e"] (spKind xc) := by
  have e_NoName := T.ref.exc.e_name
  have e_NoPart := T.ref.exc.e_part
  have e_NoEnd := T.e_end
  have e_NoLadder := T.e_ladder
  have e_NoMatch := T.e_match
  have e_NoRow := T.e_row
  have e_NoSheet := T.e_sheet
  have e_NoState := T.e_state
  have e_NoText := T.e_text
  have e_TooMany := T.e_many
  have nd := T.ndx
  simp only [List.nodup_cons, List.mem_cons, List.not_mem_nil, or_false, not_or] at nd
  refine fnPAt_ok T.d_kind sc__law_kind (fun a c d vs H Q E h => ?_) (fun f cdv A outer s H vs Q E p c d hz hf hr h => ?_)
  · obtain ⟨b, rfl, _⟩ := h; rfl
  · obtain ⟨b, rfl, rfl, rfl, k⟩ := h
    obtain ⟨xn, ex⟩ := T.ref.exc.of b
    have hex := ex.is_
    have hp : p ∈ [p] := List.mem_singleton.mpr rfl
    have hC : xc.of b ≠ xc.err := by
      cases b
      · exact fun e => nd.1.1 e.symm
      · exact fun e => nd.1.2.1 e.symm
    have ot : ∀ {y : Str} {D : Addr}, ExcAt K mg y D xc.err → ¬ xc.err = D → ¬ xc.name = D → ¬ xc.part = D → PySem.W.kitOne K (.ref (xc.of b)) (.ref D) = some false := by
      intro y D U n1 n2 n3
      rw [ex.kit U ⟨hC, fun e => n1 e.symm⟩]
      congr 1
      exact decide_eq_false (by cases b; exact n2; exact n3)
    have kN : PySem.W.kitOne K (.ref (xc.of b)) (.ref xc.name) = some (!b) := by
      rw [ex.kit e_NoName ⟨hC, fun e => nd.1.1 e.symm⟩]
      congr 1
      cases b
      · exact decide_eq_true rfl
      · exact decide_eq_false (fun e => nd.2.1.1 e.symm)
    have kP : PySem.W.kitOne K (.ref (xc.of b)) (.ref xc.part) = some b := by
      rw [ex.kit e_NoPart ⟨hC, fun e => nd.1.2.1 e.symm⟩]
      congr 1
      cases b
      · exact decide_eq_false nd.2.1.1
      · exact decide_eq_true rfl
    have no : ∀ q : false = true, false = true := fun q => q
    refine ⟨_, (pss_cons (ps_if (PW.pt (pw_or (pt_not (pt_val (pe_callB (call_isP hex hz hf hp) (by rfl) T.z_isinstance (by decide +kernel) (pa_cons (pv 0) (pa_cons (pe_bltn (v := .ty "ValueError") (by rfl) T.z_ValueError (by decide +kernel) rfl) pa_nil))))) (pw_or1 (pt_cmpR op_eq (pe_callB (call_isP hex hz hf hp) (by rfl) T.z_isinstance (by decide +kernel) (pa_cons (pv 0) (pa_cons (pe_exc e_NoName) pa_nil))) (pe_callB (call_isP hex hz hf hp) (by rfl) T.z_isinstance (by decide +kernel) (pa_cons (pv 0) (pa_cons (pe_exc e_NoPart) pa_nil))) (nomark _))))) (pss_one (ps_ret pe_str)) pss_nil)
        (pss_cons (ps_if (pt_val (pe_callB (call_isPT hex hz hf hp) (by rfl) T.z_isinstance (by decide +kernel) (pa_cons (pv 0) (pa_cons (pe_tup (pa_cons (pe_exc e_NoEnd) (pa_cons (pe_exc e_NoLadder) (pa_cons (pe_exc e_NoMatch) (pa_cons (pe_exc e_NoRow) (pa_cons (pe_exc e_NoSheet) (pa_cons (pe_exc e_NoState) (pa_cons (pe_exc e_NoText) (pa_cons (pe_exc e_TooMany) pa_nil))))))))) pa_nil)))) (pss_one (ps_ret pe_str)) pss_nil)
        (pss_one (ps_ret (pe_ix ix_list (pe_lst (pa_cons pe_str (pa_cons pe_str pa_nil))) (pe_callTy call_int1 (by rfl) T.z_int (by decide +kernel) (pa_cons (pe_callB (call_isP hex hz hf hp) (by rfl) T.z_isinstance (by decide +kernel) (pa_cons (pv 0) (pa_cons (pe_exc e_NoName) pa_nil))) pa_nil)) (fun _ _ => rfl)))))), ?_⟩
    walk_at "rd"
    refine ⟨.ty "ValueError", .type "ValueError", true, rfl, fun u r => r, ex.kitV, true, rfl, iteF ?_⟩
    refine ⟨.ref xc.name, .ref xc.name, !b, rfl, fun u r => r, kN, .ref xc.part, .ref xc.part, b, rfl, fun u r => r, kP, scal_bb, ?_⟩
    rw [show decide (V.bl (!b) = V.bl b) = false by cases b <;> rfl]
    refine iteF ⟨line_ge (by simp), fun t1 n1 => ⟨t1, _, _, false, rfl, upd_same, .cons (.own _) (.cons (.own _) (.cons (.own _) (.cons (.own _) (.cons (.own _) (.cons (.own _) (.cons (.own _) (.cons (.own _) .nil))))))),
      kitAny_cons (ot e_NoEnd nd.1.2.2.1 nd.2.1.2.1 nd.2.2.1.1) (fun _ => kitAny_cons (ot e_NoLadder nd.1.2.2.2.1 nd.2.1.2.2.1 nd.2.2.1.2.1) (fun _ => kitAny_cons (ot e_NoMatch nd.1.2.2.2.2.1 nd.2.1.2.2.2.1 nd.2.2.1.2.2.1) (fun _ =>
        kitAny_cons (ot e_NoRow nd.1.2.2.2.2.2.1 nd.2.1.2.2.2.2.1 nd.2.2.1.2.2.2.1) (fun _ => kitAny_cons (ot e_NoSheet nd.1.2.2.2.2.2.2.1 nd.2.1.2.2.2.2.2.1 nd.2.2.1.2.2.2.2.1) (fun _ => kitAny_cons (ot e_NoState nd.1.2.2.2.2.2.2.2.1 nd.2.1.2.2.2.2.2.2.1 nd.2.2.1.2.2.2.2.2.1) (fun _ =>
          kitAny_cons (ot e_NoText nd.1.2.2.2.2.2.2.2.2.1 nd.2.1.2.2.2.2.2.2.2.1 nd.2.2.1.2.2.2.2.2.2.1) (fun _ => kitAny_cons (ot e_TooMany nd.1.2.2.2.2.2.2.2.2.2 nd.2.1.2.2.2.2.2.2.2.2 nd.2.2.1.2.2.2.2.2.2.2) (fun _ => kitAny_nil) no) no) no) no) no) no) no) no, false, rfl, iteF ⟨line_ge (by simp), fun q2 nq2 => ?_⟩⟩⟩
    refine ⟨.ref xc.name, .ref xc.name, !b, rfl, fun u r => r, kN, .inr ⟨!b, rfl, ?_⟩⟩
    cases b
    · exact ⟨q2, _, _, .str "name", rfl, rfl, SqL.of upd_same, rfl, k _ ((Same.new n1).trans (Same.new nq2))⟩
    · exact ⟨q2, _, _, .str "part", rfl, rfl, SqL.of upd_same, rfl, k _ ((Same.new n1).trans (Same.new nq2))⟩
inductive Thing (K : PySem.W.Frag) (cl : Cl) (H : Hp) : Int → V → Cond → Prop
  | ct {n : Str} (h : n.length ≤ 1000000) : Thing K cl H 0 (.str n) (.contact n)
  | tn {v : V} {c : Cond} (p : IsP cl H v c) (hb : c.bad = none) : Thing K cl H 1 v (.not c)
  | gr {s : Bool} {l : Addr} {ws : List V} {cs : List Cond} (hl : SqL K H l ws ∨ (SqT K H l ws ∧ cs.length < 2)) (p : IsPs cl H ws cs) (hb : Cond.bads cs = none) (ht : (Cond.grp s cs).thin = true) : Thing K cl H (if s then 2 else 3) (.ref l) (.grp s cs)
  | tup {v : V} {c : Cond} (p : IsT H v c) (ht : c.thin = true) (hz : c.size ≤ 100000) : Thing K cl H 4 v c
def spMade (K : PySem.W.Frag) (cl : Cl) (xc : Xc) : Sp := fun vs H Q E => ∃ (i : Int) (v : V) (c : Cond), vs = [.int i, v] ∧ Thing K cl H i v c ∧ Out cl xc H c Q E
theorem thin_not {c : Cond} (h : c.bad = none) : (Cond.not c).size ≤ 1000 ∧ (Cond.not c).depth ≤ 21 := by
  have := Cond.bad_none h
  rw [Cond.size, Cond.depth]
  omega
theorem ok_made (T : TKind K mg cl xc xo) : FnAt P w K mg base (L2.CX P w) "_law_made" 28 ["_law_way", "_law_thing"] (spMade K cl xc) := by
  have X := T.ref.exc
  have TM := T.ref.partof.make
  have MX_Contact : MakAt P w K mg base (L2.CX P w) "Contact" cl.ct 3 ["self", "name"] (spInitCtX cl xc) := ok_init_ctX TM X
  have MX_Turned : MakAt P w K mg base (L2.CX P w) "Turned" cl.tn 24 ["self", "part"] (spInitTnX cl xc) := ok_init_tnX TM X
  have MX_Series : MakAt P w K mg base (L2.CX P w) "Series" cl.sr 24 ["self", "parts"] (spInitGrX K cl xc true) := ok_init_grX TM X true TM.parts.c_Series TM.i_sr
  have MX_Branch : MakAt P w K mg base (L2.CX P w) "Branch" cl.br 24 ["self", "parts"] (spInitGrX K cl xc false) := ok_init_grX TM X false TM.parts.c_Branch TM.i_br
  have GX_part_of : FnAt P w K mg base (L2.CX P w) "part_of" 27 _ (spPartOfX cl xc) := ok_part_ofX T.ref.partof X
  refine fnAt_okX T.d_made sc__law_made (fun vs H Q E h => ?_) (fun f cdv A outer s H vs Q E hr h => ?_)
  · obtain ⟨i, v, c, rfl, _⟩ := h; rfl
  · obtain ⟨i, v, c, rfl, t, o⟩ := h
    refine ⟨_, (pss_cons (ps_if (pt_cmpR op_eq (pv 0) pe_int (nomark _)) (pss_one (ps_ret (pe_makeF MX_Contact hr (passX (L2.takes_of rfl rfl rfl rfl)) (pa_cons (pv 1) pa_nil)))) pss_nil)
        (pss_cons (ps_if (pt_cmpR op_eq (pv 0) pe_int (nomark _)) (pss_one (ps_ret (pe_makeF MX_Turned hr (passX (L2.takes_of rfl rfl rfl rfl)) (pa_cons (pv 1) pa_nil)))) pss_nil)
        (pss_cons (ps_if (pt_cmpR op_eq (pv 0) pe_int (nomark _)) (pss_one (ps_ret (pe_makeF MX_Series hr (passX (L2.takes_of rfl rfl rfl rfl)) (pa_cons (pv 1) pa_nil)))) pss_nil)
        (pss_cons (ps_if (pt_cmpR op_eq (pv 0) pe_int (nomark _)) (pss_one (ps_ret (pe_makeF MX_Branch hr (passX (L2.takes_of rfl rfl rfl rfl)) (pa_cons (pv 1) pa_nil)))) pss_nil)
        (pss_one (ps_ret (pe_callF GX_part_of hr (passX (L2.takes_of rfl rfl rfl rfl)) (pa_cons (pv 1) pa_nil)))))))), ?_⟩
    cases t with
    | ct hl =>
      walk_at "rd"
      refine ⟨_, rfl, ?_⟩
      exact mk_ctX (line_ge hl) (fun hn H' x s' p => o.1 (by rw [bad_ct, if_pos hn]) H' x s' p) fun hn H' s' => o.2 false (by rw [bad_ct, if_neg (by rw [hn]; exact Bool.false_ne_true)]) H' s'
    | tn p hb =>
      walk_at "rd"
      rw [if_neg (by decide)]
      refine ⟨_, rfl, ?_⟩
      obtain ⟨h1, h2⟩ := thin_not hb
      exact mk_tnX p h1 h2 (out_not hb o).1 (out_not hb o).2
    | @gr s l ws cs hl p hb ht =>
      obtain ⟨h1, h2⟩ := thin_bound ht hb
      cases s with
      | true =>
        walk_at "rd"
        rw [if_neg (by decide), if_neg (by decide)]
        refine ⟨_, rfl, ?_⟩
        exact mk_grX hl p h1 h2 (out_grp hb o).1 (out_grp hb o).2
      | false =>
        walk_at "rd"
        rw [if_neg (by decide), if_neg (by decide), if_neg (by decide)]
        refine ⟨_, rfl, ?_⟩
        exact mk_grX hl p h1 h2 (out_grp hb o).1 (out_grp hb o).2
    | tup p ht hz =>
      walk_at "rd"
      rw [if_neg (by decide), if_neg (by decide), if_neg (by decide), if_neg (by decide)]
      exact ⟨v, c, rfl, p, ht, hz, o⟩
/-- what the law is told of a thing -/
def Out5 (H : Hp) (c : Cond) (Q : VK) : Prop := (c.bad = none → ∀ (H' : Hp) (p : Addr), Same H H' → H' p = some (.tup [.int c.size, .int c.depth]) → Q (.ref p) H') ∧ ∀ e, c.bad = some e → ∀ (H' : Hp), Same H H' → Q (.str (kindT e)) H'
def spTold5 (K : PySem.W.Frag) (cl : Cl) : Sp := fun vs H Q _ => ∃ (i : Int) (v : V) (c : Cond), vs = [.int i, v] ∧ Thing K cl H i v c ∧ Out5 H c Q
theorem ok_told5 (T : TKind K mg cl xc xo) : FnAt P w K mg base CX0 "_law_told" 29 ["_law_way", "_law_thing"] (spTold5 K cl) := by
  have GX__law_made : FnAt P w K mg base (L2.CX P w) "_law_made" 28 _ (spMade K cl xc) := ok_made T
  have G__law_kind : FnPAt P w K mg base CX0 "_law_kind" 1 _ (spKind xc) := ok_kind T
  have G_size : DispAt P w K mg base CX0 cl.has "size" 21 ["self"] (spSize cl 20) := disp_size T.ref.partof.make.parts 20
  have G_depth : DispAt P w K mg base CX0 cl.has "depth" 21 ["self"] (spDepth cl 20) := disp_depth T.ref.partof.make.parts 20
  have e_LadderError := T.ref.exc.e_err
  refine fnAt_ok T.d_told sc__law_told (fun vs H Q E h => ?_) (fun f cdv A outer s H vs Q E hr h => ?_)
  · obtain ⟨i, v, c, rfl, _⟩ := h; rfl
  · obtain ⟨i, v, c, rfl, t, k, kx⟩ := h
    refine ⟨_, (pss_cons (ps_try_as (i := 3) rfl rfl sc__law_told.nd rfl rfl ⟨rfl, by decide, .inl e_LadderError.gP⟩ takesN (fun W pn xe tk _ => (pss_one (ps_set (i := 2) sc__law_told.nd rfl (by first | exact Or.inl rfl | exact Or.inr rfl) (pe_callT GX__law_made hr tk (pa_cons (pv 0) (pa_cons (pv 1) pa_nil)))))) (fun a oe cls d pn hz hf => (pss_one (ps_ret (pe_callP G__law_kind hz hf hr (pa_cons (pv 3) pa_nil))))))
        (pss_one (ps_ret (pe_tup (pa_cons (pe_methD0 G_size hr pass0 (pv 2)) (pa_cons (pe_methD0 G_depth hr pass0 (pv 2)) pa_nil)))))), ?_⟩
    walk_at "rd"
    refine ⟨_, rfl, _, rfl, i, v, c, rfl, t, fun hb H1 x s1 px => ?_, fun e he H1 s1 => ?_⟩
    · obtain ⟨g1, g2, g3⟩ := Cond.bad_none hb
      obtain ⟨_, C, dx, fs, ea, ha, hC, _⟩ := meth_of (m := "size") (by decide +kernel) px
      cases ea
      refine ⟨_, rfl, x, C, dx, fs, rfl, ha, hC, look_of (by decide +kernel) ha px, x, dx, fs, c, rfl, ha, px, g3, by omega, fun H2 s2 => ?_⟩
      refine ⟨_, rfl, x, C, dx, fs, rfl, s2 _ _ ha, hC, look_of (by decide +kernel) ha px, x, dx, fs, c, rfl, s2 _ _ ha, px.mono (Same.imm s2), g3, by omega, fun H3 s3 => ⟨line_ge (by simp), fun p np => ?_⟩⟩
      exact k hb _ p ((s1.trans s2).trans (s3.trans (Same.new np))) upd_same
    · obtain ⟨xn, ex⟩ := T.ref.exc.of e
      exact ⟨true, ex.caught e_LadderError, fun _ a ha => ⟨_, rfl, e, rfl, rfl, rfl, fun H2 s2 => kx e he _ (s1.trans s2)⟩, fun q => nomatch q⟩
end

/-! ## k05: what the law draws -/
abbrev s__law_bad_word : Stmt := top 41
theorem sc__law_bad_word : FnScope ["_law_cell", "_law_words_here", "_law_others", "_law_at"] ["_law_cell"] (defScope s__law_bad_word) := ⟨rfl, rfl, rfl, by decide +kernel, rfl, by decide +kernel, by decide +kernel⟩
abbrev s__law_deep : Stmt := top 42
theorem sc__law_deep : FnScope ["_law_name", "_law_many", "_law_cell", "_law_told_here", "_law_k", "_law_other"] ["_law_name", "_law_many", "_law_cell"] (defScope s__law_deep) := ⟨rfl, rfl, rfl, by decide +kernel, rfl, by decide +kernel, by decide +kernel⟩
abbrev s__law_large : Stmt := top 43
theorem sc__law_large : FnScope ["_law_name", "_law_many", "_law_cell", "_law_one", "_law_told_here", "_law_at"] ["_law_name", "_law_many", "_law_cell"] (defScope s__law_large) := ⟨rfl, rfl, rfl, by decide +kernel, rfl, by decide +kernel, by decide +kernel⟩
structure TDraw (K : PySem.W.Frag) (mg : Str → Option Value) : Prop where
  d_bad : DefAt K mg "_law_bad_word" s__law_bad_word ["_law_cell"]
  d_deep : DefAt K mg "_law_deep" s__law_deep ["_law_name", "_law_many", "_law_cell"]
  d_large : DefAt K mg "_law_large" s__law_large ["_law_name", "_law_many", "_law_cell"]
  z_range : mg "range" = none
  z_len : mg "len" = none
section
variable {P : Program} {w : World} {K : PySem.W.Frag} {mg : Str → Option Value} {base : Heap} {cl : Cl} {xc : Xc} {xo : Xo}
/-- a condition that is k + 1 deep -/
def deepC (n : Str) (c : Int) : Nat → Cond
  | 0 => .contact n
  | k + 1 => if c / ((k : Int) + 1) % 3 = 0 then .not (deepC n c k) else if c / ((k : Int) + 1) % 3 = 1 then .grp true [.contact n, deepC n c k] else .grp false [deepC n c k, .contact n]
/-- its parts: a few contacts and one that is turned -/
def spLarge : Sp := fun vs H Q _ => ∃ (n : Str) (m c : Int), vs = [.str n, .int m, .int c] ∧ 50 ≤ m ∧ m ≤ 100 ∧ 0 ≤ c ∧ ∀ (H' : Hp) (v : V) (s : Bool) (cs : List Cond), Same H H' → IsT H' v (.grp s cs) → (∀ c ∈ cs, c = .contact n ∨ c = .not (.contact n)) → cs.length = m.toNat - 2 → Cond.sizes cs = m.toNat - 1 → Cond.not (.contact n) ∈ cs → Q v H'
abbrev sOthers : Str := " !\"#$&'()*+,-./0123456789:;<=>?@ABCDEFGHIJKLMNOPQRSTUVWXYZ[\\]^_`{|}~"
theorem others_low : ∀ x ∈ sOthers.cps.toList, isLow x = false := by decide +kernel
theorem cps_app (a b : Str) : (a ++ b).cps.toList = a.cps.toList ++ b.cps.toList := by
  show (Str.append a b).cps.toList = _
  simp [Str.append]
theorem not_name {a b : Str} {x : Nat} (h : isLow x = false) : isName (a ++ ⟨#[x]⟩ ++ b) = false := by
  unfold isName isWord
  rw [cps_app, cps_app]
  simp [h]
def spBadWord : Sp := fun vs H Q _ => ∃ i : Int, vs = [.int i] ∧ 0 ≤ i ∧ ∀ (H' : Hp) (z : Str), Same H H' → isName z = false → z.length ≤ 1000 → Q (.str z) H'
theorem ok_bad_word (T : TDraw K mg) : FnAt P w K mg base CX0 "_law_bad_word" 1 ["_law_cell"] spBadWord := by
  refine fnAt_ok T.d_bad sc__law_bad_word (fun vs H Q E h => ?_) (fun f cdv A outer s H vs Q E hr h => ?_)
  · obtain ⟨i, rfl, _⟩ := h; rfl
  · obtain ⟨i, rfl, h0, k⟩ := h
    refine ⟨_, (pss_cons (ps_set (i := 1) sc__law_bad_word.nd rfl (by first | exact Or.inl rfl | exact Or.inr rfl) (pe_lst (pa_cons pe_str (pa_cons pe_str (pa_cons pe_str (pa_cons pe_str (pa_cons pe_str (pa_cons pe_str (pa_cons pe_str (pa_cons pe_str (pa_cons pe_str (pa_cons pe_str (pa_cons pe_str (pa_cons pe_str (pa_cons pe_str pa_nil)))))))))))))))
        (pss_cons (ps_if (pt_cmpR op_eq (pe_op op_mod (pv 0) pe_int) pe_int (nomark _)) (pss_one (ps_ret (pe_ix ix_list (pv 1) (pe_op op_mod (pe_op op_fdiv (pv 0) pe_int) pe_int) (fun _ _ => rfl)))) pss_nil)
        (pss_cons (ps_set (i := 2) sc__law_bad_word.nd rfl (by first | exact Or.inl rfl | exact Or.inr rfl) pe_str)
        (pss_cons (ps_set (i := 3) sc__law_bad_word.nd rfl (by first | exact Or.inl rfl | exact Or.inr rfl) (pe_op op_mod (pe_op op_fdiv (pv 0) pe_int) pe_int))
        (pss_one (ps_ret (pe_op op_add_str (pe_op op_add_str (pe_slice sl_str pe_str po_none (po_some (pv 3))) (pe_ix ix_str (pv 2) (pe_op op_mod (pe_op op_fdiv (pv 0) pe_int) (pe_callB call_len_str (by rfl) T.z_len PySem.boot_len (pa_cons (pv 2) pa_nil))) (fun _ _ => rfl))) (pe_slice sl_str pe_str (po_some (pv 3)) po_none)))))))), ?_⟩
    walk_at "rd"
    refine ⟨line_ge (by simp), fun p np => ?_⟩
    have sn := Same.new (o := .lst [.str "", .str "on", .str "off", .str "and", .str "or", .str "not", .str "set", .str "reset", .str "timer", .str "counter", .str "inputs", .str "outputs", .str "abcdefghi"]) np
    by_cases h2 : i % 2 = 0
    · rw [decide_eq_true h2]
      obtain ⟨y, hy, hya⟩ := atI_ex (xs := [V.str "", .str "on", .str "off", .str "and", .str "or", .str "not", .str "set", .str "reset", .str "timer", .str "counter", .str "inputs", .str "outputs", .str "abcdefghi"]) (Int.emod_nonneg (i / 2) (show (13 : Int) ≠ 0 by decide)) (Int.emod_lt_of_pos (i / 2) (show (0 : Int) < 13 by decide))
      obtain ⟨z, rfl, hz, hl⟩ : ∃ z : Str, y = .str z ∧ isName z = false ∧ z.length ≤ 1000 := by
        simp only [List.mem_cons, List.not_mem_nil, or_false] at hy
        rcases hy with rfl | rfl | rfl | rfl | rfl | rfl | rfl | rfl | rfl | rfl | rfl | rfl | rfl <;> exact ⟨_, rfl, by decide +kernel, by decide +kernel⟩
      exact iteT ⟨p, _, _, .str z, rfl, rfl, SqL.of upd_same, hya, k _ z sn hz hl⟩
    · rw [decide_eq_false h2]
      obtain ⟨x, hx, hxa⟩ := atI_ex (xs := sOthers.cps.toList) (i := i / 10 % (sOthers.length : Int)) (Int.emod_nonneg _ (by decide +kernel)) (by
        have := Int.emod_lt_of_pos (i / 10) (show (0 : Int) < (sOthers.length : Int) by decide +kernel)
        have e : sOthers.cps.toList.length = sOthers.length := by decide +kernel
        rw [e]
        exact this)
      have hlow := others_low x hx
      have l1 := cutS_le "note" none (some (i / 2 % 5))
      have l2 := cutS_le "note" (some (i / 2 % 5)) none
      have l4 : ("note" : Str).length = 4 := by decide +kernel
      have lx : (⟨#[x]⟩ : Str).length = 1 := rfl
      refine iteF ⟨line_ge (by decide +kernel), line_ge (by decide +kernel), by decide +kernel, line_ge (by decide +kernel), x, hxa, line_ge ?_, line_ge (by decide +kernel), line_ge ?_, k _ _ sn (not_name hlow) ?_⟩
      · show (cutS "note" none (some (i / 2 % 5))).length + (⟨#[x]⟩ : Str).length ≤ _
        omega
      · show (cutS "note" none (some (i / 2 % 5)) ++ (⟨#[x]⟩ : Str)).length + (cutS "note" (some (i / 2 % 5)) none).length ≤ _
        rw [len_app]
        omega
      · rw [len_app, len_app]
        omega
def spDeep : Sp := fun vs H Q _ => ∃ (n : Str) (m c : Int), vs = [.str n, .int m, .int c] ∧ 1 ≤ m ∧ m ≤ 2000 ∧ 0 ≤ c ∧ ∀ (H' : Hp) (v : V), Same H H' → IsT H' v (deepC n c (m - 1).toNat) → Q v H'
theorem ok_deep (T : TDraw K mg) : FnAt P w K mg base CX0 "_law_deep" 1 ["_law_name", "_law_many", "_law_cell"] spDeep := by
  refine fnAt_ok T.d_deep sc__law_deep (fun vs H Q E h => ?_) (fun f cdv A outer s H vs Q E hr h => ?_)
  · obtain ⟨n, m, c, rfl, _⟩ := h; rfl
  · obtain ⟨n, m, c, rfl, h1, h2, h3, k⟩ := h
    refine ⟨_, (pss_cons (ps_set (i := 3) sc__law_deep.nd rfl (by first | exact Or.inl rfl | exact Or.inr rfl) (pe_tup (pa_cons pe_str (pa_cons (pv 0) pa_nil))))
        (pss_cons (ps_for PassesOwn.never rfl (pi_range1 rfl T.z_range (pa_cons (pe_op op_sub (pv 1) pe_int) pa_nil)) (pg_name (i := 4) sc__law_deep.nd rfl (by first | exact Or.inl rfl | exact Or.inr rfl)) (pss_cons (ps_set (i := 5) sc__law_deep.nd rfl (by first | exact Or.inl rfl | exact Or.inr rfl) (pe_tup (pa_cons pe_str (pa_cons (pv 0) pa_nil))))
          (pss_one (ps_if (pt_cmpR op_eq (pe_op op_mod (pe_op op_fdiv (pv 2) (pe_op op_add (pv 4) pe_int)) pe_int) pe_int (nomark _)) (pss_one (ps_set (i := 3) sc__law_deep.nd rfl (by first | exact Or.inl rfl | exact Or.inr rfl) (pe_tup (pa_cons pe_str (pa_cons (pv 3) pa_nil))))) (pss_one (ps_if (pt_cmpR op_eq (pe_op op_mod (pe_op op_fdiv (pv 2) (pe_op op_add (pv 4) pe_int)) pe_int) pe_int (nomark _)) (pss_one (ps_set (i := 3) sc__law_deep.nd rfl (by first | exact Or.inl rfl | exact Or.inr rfl) (pe_tup (pa_cons pe_str (pa_cons (pv 5) (pa_cons (pv 3) pa_nil)))))) (pss_one (ps_set (i := 3) sc__law_deep.nd rfl (by first | exact Or.inl rfl | exact Or.inr rfl) (pe_tup (pa_cons pe_str (pa_cons (pv 3) (pa_cons (pv 5) pa_nil))))))))))))
        (pss_one (ps_ret (pv 3))))), ?_⟩
    walk_at "rd"
    refine ⟨line_ge (by simp), fun p np => ?_⟩
    refine ⟨_, rfl, _, _, rfl, rfl, _, rfl, by omega, by omega, for_range (lo := 0) (n := (m - 1).toNat) (fun j σ H' => ∃ (v4 v5 : Option V) (v : V), σ = [some (.str n), some (.int m), some (.int c), some v, v4, v5] ∧ Same H H' ∧ IsT H' v (deepC n c j))
      ⟨none, none, .ref p, rfl, Same.new np, .contact upd_same⟩ ?_ ?_⟩
    · rintro j σ H1 hj ⟨v4, v5, v, rfl, s1, pv_⟩
      walk_at "rd"
      refine ⟨line_ge (by simp), fun t nt => ⟨⟨by omega, by omega⟩, ?_⟩⟩
      have sn := Same.new (o := .tup [.str "contact", .str n]) nt
      rw [show (0 + (j : Int) + 1) = (j : Int) + 1 by omega]
      by_cases z0 : c / ((j : Int) + 1) % 3 = 0
      · rw [decide_eq_true z0]
        refine iteT ⟨line_ge (by simp), fun u nu => ⟨_, _, _, ⟨rfl, rfl, rfl⟩, s1.trans (sn.trans (Same.new nu)), ?_⟩⟩
        rw [deepC, if_pos z0]
        exact .not upd_same (pv_.mono (T := fun _ => False) (Same.imm (sn.trans (Same.new nu))))
      · rw [decide_eq_false z0]
        refine iteF ⟨⟨by omega, by omega⟩, ?_⟩
        by_cases z1 : c / ((j : Int) + 1) % 3 = 1
        · rw [decide_eq_true z1]
          refine iteT ⟨line_ge (by simp), fun u nu => ⟨_, _, _, ⟨rfl, rfl, rfl⟩, s1.trans (sn.trans (Same.new nu)), ?_⟩⟩
          rw [deepC, if_neg z0, if_pos z1]
          exact .grp (s := true) upd_same (.cons (.contact (Same.new nu _ _ upd_same)) (.cons (pv_.mono (T := fun _ => False) (Same.imm (sn.trans (Same.new nu)))) .nil))
        · rw [decide_eq_false z1]
          refine iteF ⟨line_ge (by simp), fun u nu => ⟨_, _, _, ⟨rfl, rfl, rfl⟩, s1.trans (sn.trans (Same.new nu)), ?_⟩⟩
          rw [deepC, if_neg z0, if_neg z1]
          exact .grp (s := false) upd_same (.cons (pv_.mono (T := fun _ => False) (Same.imm (sn.trans (Same.new nu)))) (.cons (.contact (Same.new nu _ _ upd_same)) .nil))
    · rintro σ H1 ⟨v4, v5, v, rfl, s1, pv_⟩
      walk_at "rd"
      exact k _ v s1 pv_
theorem ok_large (T : TDraw K mg) : FnAt P w K mg base CX0 "_law_large" 1 ["_law_name", "_law_many", "_law_cell"] spLarge := by
  refine fnAt_ok T.d_large sc__law_large (fun vs H Q E h => ?_) (fun f cdv A outer s H vs Q E hr h => ?_)
  · obtain ⟨n, m, c, rfl, _⟩ := h; rfl
  · obtain ⟨n, m, c, rfl, h1, h2, h3, k⟩ := h
    refine ⟨_, (pss_cons (ps_set (i := 3) sc__law_large.nd rfl (by first | exact Or.inl rfl | exact Or.inr rfl) (pe_tup (pa_cons pe_str (pa_cons (pv 0) pa_nil))))
        (pss_cons (ps_set (i := 4) sc__law_large.nd rfl (by first | exact Or.inl rfl | exact Or.inr rfl) (pe_op op_catT (pe_op op_catT (pe_tup (pa_cons (pe_ix ix_list (pe_lst (pa_cons pe_str (pa_cons pe_str pa_nil))) (pe_op op_mod (pv 2) pe_int) (fun _ _ => rfl)) (pa_cons (pv 3) pa_nil))) (pe_op op_repT (pe_tup (pa_cons (pv 3) pa_nil)) (pe_op op_sub (pv 1) pe_int))) (pe_tup (pa_cons (pe_tup (pa_cons pe_str (pa_cons (pv 3) pa_nil))) pa_nil))))
        (pss_cons (ps_set (i := 5) sc__law_large.nd rfl (by first | exact Or.inl rfl | exact Or.inr rfl) (pe_op op_add pe_int (pe_op op_mod (pe_op op_fdiv (pv 2) pe_int) (pe_op op_sub (pe_callB call_len_seq (by rfl) T.z_len PySem.boot_len (pa_cons (pv 4) pa_nil)) pe_int))))
        (pss_one (ps_ret (pe_op op_catT (pe_slice sl_tup (pv 4) po_none (po_some (pv 5))) (pe_revT (pe_slice sl_tup (pv 4) (po_some (pv 5)) po_none)))))))), ?_⟩
    walk_at "rd"
    refine ⟨line_ge (by simp), fun p np => ?_⟩
    have s0 : Same H (upd H p (.tup [.str "contact", .str n])) := Same.new np
    have hp : upd H p (.tup [.str "contact", .str n]) p = some (.tup [.str "contact", .str n]) := upd_same
    generalize upd H p (.tup [.str "contact", .str n]) = H0 at s0 hp ⊢
    refine ⟨line_ge (by simp), fun p1 np1 => ?_⟩
    obtain ⟨y, hy, hya⟩ := atI_ex (xs := [V.str "and", .str "or"]) (Int.emod_nonneg c (show (2 : Int) ≠ 0 by decide)) (Int.emod_lt_of_pos c (show (0 : Int) < 2 by decide))
    obtain ⟨b, rfl⟩ : ∃ b, y = .str (word b) := by
      simp only [List.mem_cons, List.not_mem_nil, or_false] at hy
      rcases hy with rfl | rfl
      · exact ⟨true, rfl⟩
      · exact ⟨false, rfl⟩
    have s1 := s0.trans (Same.new (o := .lst [.str "and", .str "or"]) np1)
    have hp1 := Same.new (o := .lst [.str "and", .str "or"]) np1 _ _ hp
    refine ⟨p1, _, _, .str (word b), rfl, rfl, SqL.of upd_same, hya, ?_⟩
    generalize upd H0 p1 (.lst [.str "and", .str "or"]) = H1 at s1 hp1 ⊢
    refine ⟨line_ge (by simp), fun p2 np2 => ?_⟩
    have s2 := s1.trans (Same.new (o := .tup [.str (word b), .ref p]) np2)
    have hp2 := Same.new (o := .tup [.str (word b), .ref p]) np2 _ _ hp1
    have h22 := upd_same (H := H1) (a := p2) (o := .tup [.str (word b), .ref p])
    generalize upd H1 p2 (.tup [.str (word b), .ref p]) = H2 at s2 hp2 h22 ⊢
    refine ⟨line_ge (by simp), fun p3 np3 => ?_⟩
    have s3 := s2.trans (Same.new (o := .tup [.ref p]) np3)
    have hp3 := Same.new (o := .tup [.ref p]) np3 _ _ hp2
    have h23 := Same.new (o := .tup [.ref p]) np3 _ _ h22
    have h33 := upd_same (H := H2) (a := p3) (o := .tup [.ref p])
    generalize upd H2 p3 (.tup [.ref p]) = H3 at s3 hp3 h23 h33 ⊢
    refine ⟨p3, m - 4, [.ref p], rfl, rfl, SqT.of h33, by simp, by omega, by omega, by simp, fun p4 np4 => ?_⟩
    have eR : (List.replicate (m - 4).toNat [V.ref p]).flatten = List.replicate (m - 4).toNat (V.ref p) := by
      generalize (m - 4).toNat = q
      induction q with
      | zero => rfl
      | succ q ih => rw [List.replicate_succ, List.flatten_cons, ih, List.replicate_succ]; rfl
    rw [eR]
    obtain ⟨R, hR⟩ : ∃ R, R = List.replicate (m - 4).toNat (V.ref p) := ⟨_, rfl⟩
    have lR : R.length = (m - 4).toNat := by rw [hR, List.length_replicate]
    have neR : R ≠ [] := by
      intro e
      rw [e] at lR
      simp at lR
      omega
    rw [← hR]
    have s4 := s3.trans (Same.new (o := .tup R) np4)
    have hp4 := Same.new (o := .tup R) np4 _ _ hp3
    have h24 := Same.new (o := .tup R) np4 _ _ h23
    have h44 := upd_same (H := H3) (a := p4) (o := .tup R)
    generalize upd H3 p4 (.tup R) = H4 at s4 hp4 h24 h44 ⊢
    refine ⟨p2, p4, [.str (word b), .ref p], R, rfl, rfl, SqT.of h24, SqT.of h44, by simp, line_ge (by simp; omega), fun e => absurd e neR, fun _ p5 np5 => ?_⟩
    have s5 := s4.trans (Same.new (o := .tup ([.str (word b), .ref p] ++ R)) np5)
    have hp5 := Same.new (o := .tup ([.str (word b), .ref p] ++ R)) np5 _ _ hp4
    have h55 := upd_same (H := H4) (a := p5) (o := .tup ([.str (word b), .ref p] ++ R))
    generalize upd H4 p5 (.tup ([.str (word b), .ref p] ++ R)) = H5 at s5 hp5 h55 ⊢
    refine ⟨line_ge (by simp), fun p6 np6 => ⟨line_ge (by simp), fun p7 np7 => ?_⟩⟩
    have s6 := s5.trans (Same.new (o := .tup [.str "not", .ref p]) np6)
    have s7 := s6.trans (Same.new (o := .tup [.ref p6]) np7)
    have hp7 := Same.new (o := .tup [.ref p6]) np7 _ _ (Same.new (o := .tup [.str "not", .ref p]) np6 _ _ hp5)
    have h57 := Same.new (o := .tup [.ref p6]) np7 _ _ (Same.new (o := .tup [.str "not", .ref p]) np6 _ _ h55)
    have h67 := Same.new (o := .tup [.ref p6]) np7 _ _ (upd_same (H := H5) (a := p6) (o := .tup [.str "not", .ref p]))
    have h77 := upd_same (H := upd H5 p6 (.tup [.str "not", .ref p])) (a := p7) (o := .tup [.ref p6])
    generalize upd (upd H5 p6 (.tup [.str "not", .ref p])) p7 (.tup [.ref p6]) = H7 at s7 hp7 h57 h67 h77 ⊢
    obtain ⟨ks, hks⟩ : ∃ ks, ks = .ref p :: R ++ [.ref p6] := ⟨_, rfl⟩
    have ew : [V.str (word b), .ref p] ++ R ++ [.ref p6] = .str (word b) :: ks := by rw [hks]; rfl
    have lk : ks.length = m.toNat - 2 := by rw [hks]; simp; omega
    refine ⟨p5, p7, [.str (word b), .ref p] ++ R, [.ref p6], rfl, rfl, SqT.of h57, SqT.of h77, by simp, line_ge (by simp; omega), fun e => (by simp at e), fun _ p8 np8 => ?_⟩
    rw [ew]
    have s8 := s7.trans (Same.new (o := .tup (.str (word b) :: ks)) np8)
    have hp8 := Same.new (o := .tup (.str (word b) :: ks)) np8 _ _ hp7
    have h68 := Same.new (o := .tup (.str (word b) :: ks)) np8 _ _ h67
    have h88 := upd_same (H := H7) (a := p8) (o := .tup (.str (word b) :: ks))
    generalize upd H7 p8 (.tup (.str (word b) :: ks)) = H8 at s8 hp8 h68 h88 ⊢
    have hlen : (((V.str (word b) :: ks).length : Nat) : Int) - 1 = ((m.toNat - 2 : Nat) : Int) := by rw [List.length_cons, lk]; omega
    refine ⟨p8, rfl, .str (word b) :: ks, .inr (SqT.of h88), by omega, ?_⟩
    rw [hlen]
    have a0 := Int.emod_nonneg (c / 2) (show ((m.toNat - 2 : Nat) : Int) ≠ 0 by omega)
    have a1 := Int.emod_lt_of_pos (c / 2) (show (0 : Int) < ((m.toNat - 2 : Nat) : Int) by omega)
    obtain ⟨kk, hkk⟩ := Int.eq_ofNat_of_zero_le a0
    rw [hkk]
    have ekk : (1 : Int) + ((kk : Nat) : Int) = ((kk + 1 : Nat) : Int) := by omega
    rw [ekk]
    have hkl : kk < m.toNat - 2 := by omega
    have i1 : HT.sIx (V.str (word b) :: ks).length (V.str (word b) :: ks).length (some ((kk + 1 : Nat) : Int)) = kk + 1 := by
      rw [HT.sIx_nat, List.length_cons, lk]
      omega
    have i2 : HT.sIx (V.str (word b) :: ks).length 0 (some ((kk + 1 : Nat) : Int)) = kk + 1 := by
      rw [HT.sIx_nat, List.length_cons, lk]
      omega
    refine ⟨p8, _, rfl, SqT.of h88, fun e => ?_, fun p9 np9 => ?_⟩
    · rw [i1, List.length_cons, lk] at e
      omega
    rw [cutV_to, List.take_succ_cons]
    have s9 := s8.trans (Same.new (o := .tup (.str (word b) :: ks.take kk)) np9)
    have hp9 := Same.new (o := .tup (.str (word b) :: ks.take kk)) np9 _ _ hp8
    have h69 := Same.new (o := .tup (.str (word b) :: ks.take kk)) np9 _ _ h68
    have h89 := Same.new (o := .tup (.str (word b) :: ks.take kk)) np9 _ _ h88
    have h99 := upd_same (H := H8) (a := p9) (o := .tup (.str (word b) :: ks.take kk))
    generalize upd H8 p9 (.tup (.str (word b) :: ks.take kk)) = H9 at s9 hp9 h69 h89 h99 ⊢
    unfold tRevT
    walk_at "rd"
    refine ⟨p8, _, rfl, SqT.of h89, fun e => ?_, fun p10 np10 => ?_⟩
    · rw [i2] at e
      omega
    rw [cutV_from, List.drop_succ_cons]
    have s10 := s9.trans (Same.new (o := .tup (ks.drop kk)) np10)
    refine ⟨p10, rfl, _, SqT.of upd_same, fun p11 np11 => ?_⟩
    have s11 := s10.trans (Same.new (o := .tup (ks.drop kk).reverse) np11)
    have h9b := Same.new (o := .tup (ks.drop kk).reverse) np11 _ _ (Same.new (o := .tup (ks.drop kk)) np10 _ _ h99)
    have ld : (ks.drop kk).reverse.length = m.toNat - 2 - kk := by rw [List.length_reverse, List.length_drop, lk]
    have neD : (ks.drop kk).reverse ≠ [] := by
      intro e
      rw [e] at ld
      simp at ld
      omega
    refine ⟨p9, p11, .str (word b) :: ks.take kk, (ks.drop kk).reverse, rfl, rfl, SqT.of h9b, SqT.of upd_same, by simp, line_ge (by rw [ld, List.length_cons, List.length_take]; omega), fun e => absurd e neD, fun _ p12 np12 => ?_⟩
    have t12 := ((Same.new (o := .tup (ks.drop kk)) np10).trans (Same.new (o := .tup (ks.drop kk).reverse) np11)).trans (Same.new (o := .tup (.str (word b) :: ks.take kk ++ (ks.drop kk).reverse)) np12)
    obtain ⟨cs0, hcs⟩ : ∃ cs0, cs0 = .contact n :: List.replicate (m - 4).toNat (Cond.contact n) ++ [.not (.contact n)] := ⟨_, rfl⟩
    have pks : IsTs H9 ks cs0 := by
      rw [hks, hcs, hR]
      refine (IsTs.cons (.contact hp9) ?_).snoc (.not h69 (.contact hp9))
      generalize (m - 4).toNat = q
      induction q with
      | zero => exact .nil
      | succ q ih => exact .cons (.contact hp9) ih
    have lc := pks.length
    have mem0 : ∀ d, d ∈ cs0.take kk ++ (cs0.drop kk).reverse ↔ d ∈ cs0 := by
      intro d
      rw [List.mem_append, List.mem_reverse, ← List.mem_append, List.take_append_drop]
    have sz0 : Cond.sizes cs0 = m.toNat - 1 := by
      rw [hcs, sizes_app]
      have e : ∀ q : Nat, Cond.sizes (List.replicate q (Cond.contact n)) = q := by
        intro q
        induction q with
        | zero => rfl
        | succ q ih => rw [List.replicate_succ, Cond.sizes, ih, Cond.size]; omega
      rw [Cond.sizes, e]
      simp [Cond.sizes, Cond.size]
      omega
    have szr : ∀ l : List Cond, Cond.sizes l.reverse = Cond.sizes l := by
      intro l
      induction l with
      | nil => rfl
      | cons x r ih => rw [List.reverse_cons, sizes_app, ih, Cond.sizes, Cond.sizes, Cond.sizes]; omega
    refine k _ (.ref p12) b (cs0.take kk ++ (cs0.drop kk).reverse) (s9.trans t12) (.grp upd_same (((pks.take kk).app (pks.drop kk).reverse).mono (T := fun _ => False) (Same.imm t12))) ?_ ?_ ?_ ?_
    · intro d hd
      rw [mem0, hcs] at hd
      simp only [List.mem_append, List.mem_cons, List.mem_replicate, List.not_mem_nil, or_false] at hd
      rcases hd with (hd | hd) | hd
      · exact .inl hd
      · exact .inl hd.2
      · exact .inr hd
    · rw [List.length_append, List.length_reverse, List.length_take, List.length_drop]
      omega
    · rw [sizes_app, szr, ← sizes_app, List.take_append_drop, sz0]
    · rw [mem0, hcs]
      simp
end

/-! ## k05: what is asked -/
abbrev s__law_far : Stmt := top 44
theorem sc__law_far : FnScope ["_law_name", "_law_bad", "_law_cell"] ["_law_name", "_law_bad", "_law_cell"] (defScope s__law_far) := ⟨rfl, rfl, rfl, by decide +kernel, rfl, by decide +kernel, by decide +kernel⟩
abbrev s__law_bounds : Stmt := top 45
theorem sc__law_bounds : FnScope ["_law_name", "_law_cell", "_law_inside"] ["_law_name", "_law_cell"] (defScope s__law_bounds) := ⟨rfl, rfl, rfl, by decide +kernel, rfl, by decide +kernel, by decide +kernel⟩
abbrev s__law_few : Stmt := top 46
theorem sc__law_few : FnScope ["_law_name", "_law_cell", "_law_one", "_law_way", "_law_wrong"] ["_law_name", "_law_cell"] (defScope s__law_few) := ⟨rfl, rfl, rfl, by decide +kernel, rfl, by decide +kernel, by decide +kernel⟩
abbrev s__law_words : Stmt := top 47
theorem sc__law_words : FnScope ["_law_name", "_law_bad", "_law_cell", "_law_wrong", "_law_few_here", "_law_first", "_law_other"] ["_law_name", "_law_bad", "_law_cell"] (defScope s__law_words) := ⟨rfl, rfl, rfl, by decide +kernel, rfl, by decide +kernel, by decide +kernel⟩
structure TTop (K : PySem.W.Frag) (mg : Str → Option Value) (cl : Cl) (xc : Xc) (xo : Xo) : Prop where
  kind : TKind K mg cl xc xo
  draw : TDraw K mg
  d_far : DefAt K mg "_law_far" s__law_far ["_law_name", "_law_bad", "_law_cell"]
  d_bounds : DefAt K mg "_law_bounds" s__law_bounds ["_law_name", "_law_cell"]
  d_few : DefAt K mg "_law_few" s__law_few ["_law_name", "_law_cell"]
  d_words : DefAt K mg "_law_words" s__law_words ["_law_name", "_law_bad", "_law_cell"]
theorem big_deep {c : Cond} (h : 20 < c.depth) : c.big = true := by
  unfold Cond.big
  rw [decide_eq_true h, Bool.or_true]
theorem big_size {c : Cond} (h : 60 < c.size) : c.big = true := by
  unfold Cond.big
  rw [decide_eq_true h]
  rfl
theorem bads_two {a b : Cond} : Cond.bads [a, b] = match a.bad with
    | some e => some e
    | none => b.bad := by
  cases ha : a.bad with
  | some e => rw [Cond.bads, ha]
  | none =>
    rw [Cond.bads, ha, Cond.bads, Cond.bads]
    cases b.bad <;> rfl
theorem deep_depth (n : Str) (c : Int) : ∀ k, (deepC n c k).depth = k + 1
  | 0 => by simp [deepC, Cond.depth]
  | k + 1 => by
    have ih := deep_depth n c k
    rw [deepC]
    split
    · rw [Cond.depth, ih]
    · split
      · simp [Cond.depth, Cond.depths, ih]
      · simp [Cond.depth, Cond.depths, ih]
theorem deep_size (n : Str) (c : Int) : ∀ k, (deepC n c k).size ≤ 2 * k + 1
  | 0 => by simp [deepC, Cond.size]
  | k + 1 => by
    have ih := deep_size n c k
    rw [deepC]
    split
    · rw [Cond.size]; omega
    · split
      · simp [Cond.size, Cond.sizes]; omega
      · simp [Cond.size, Cond.sizes]; omega
theorem deep_thin {n : Str} (h : n.length ≤ 1000000) (c : Int) : ∀ k, (deepC n c k).thin = true
  | 0 => by rw [deepC, Cond.thin, decide_eq_true h]
  | k + 1 => by
    have ih := deep_thin h c k
    rw [deepC]
    split
    · rw [Cond.thin]; exact ih
    · split
      · simp [Cond.thin, Cond.thins, ih, h]
      · simp [Cond.thin, Cond.thins, ih, h]
theorem deep_ok {n : Str} (h : isName n = true) (c : Int) : ∀ k, (deepC n c k).ok = true
  | 0 => h
  | k + 1 => by
    have ih := deep_ok h c k
    rw [deepC]
    split
    · rw [Cond.ok]; exact ih
    · split
      · simp [Cond.ok, Cond.oks, ih, h]
      · simp [Cond.ok, Cond.oks, ih, h]
theorem deep_good {n : Str} (h : isName n = true) (c : Int) {k : Nat} (hk : k ≤ 19) : (deepC n c k).bad = none :=
  Cond.bad_ok (deep_ok h c k) (by have := deep_size n c k; omega) (by rw [deep_depth]; omega)
theorem deep_bad {n : Str} (h : isName n = false) (c : Int) : ∀ k, (deepC n c k).bad = some false
  | 0 => by rw [deepC, bad_ct, if_neg (by rw [h]; exact Bool.false_ne_true)]
  | k + 1 => by
    have ih := deep_bad h c k
    have hc : (Cond.contact n).bad = some false := by rw [bad_ct, if_neg (by rw [h]; exact Bool.false_ne_true)]
    rw [deepC]
    split
    · rw [Cond.bad, ih]
    · split
      · exact Cond.bad_kids (by rw [Cond.kids, bads_two, hc])
      · exact Cond.bad_kids (by rw [Cond.kids, bads_two, ih])
theorem deep_far {n : Str} (h : isName n = true) (c : Int) : ∀ k, (deepC n c (20 + k)).bad = some true
  | 0 => by
    have hg := deep_good h c (Nat.le_refl 19)
    have hc : (Cond.contact n).bad = none := by rw [bad_ct, if_pos h]
    have hd := deep_depth n c 20
    rw [deepC] at hd ⊢
    split
    · rename_i z
      rw [if_pos z] at hd
      rw [bad_not hg, if_pos (big_deep (by omega))]
    · rename_i z
      rw [if_neg z] at hd
      split
      · rename_i z1
        rw [if_pos z1] at hd
        rw [bad_grp (by rw [bads_two, hc, hg]), if_neg (by simp), if_pos (big_deep (by omega))]
      · rename_i z1
        rw [if_neg z1] at hd
        rw [bad_grp (by rw [bads_two, hg, hc]), if_neg (by simp), if_pos (big_deep (by omega))]
  | k + 1 => by
    have ih := deep_far h c k
    have hc : (Cond.contact n).bad = none := by rw [bad_ct, if_pos h]
    rw [show 20 + (k + 1) = (20 + k) + 1 from rfl, deepC]
    split
    · rw [Cond.bad, ih]
    · split
      · exact Cond.bad_kids (by rw [Cond.kids, bads_two, hc, ih])
      · exact Cond.bad_kids (by rw [Cond.kids, bads_two, ih])
theorem told_bad {c : Cond} {e : Bool} {H : Hp} {Q : VK} (h : c.bad = some e) (k : ∀ H', Same H H' → Q (.str (kindT e)) H') : Out5 H c Q :=
  ⟨fun q => (by rw [h] at q; cases q), fun e' q H' s' => by
    rw [h] at q
    cases q
    exact k H' s'⟩
theorem told_good {c : Cond} {H : Hp} {Q : VK} (h : c.bad = none) (k : ∀ (H' : Hp) (p : Addr), Same H H' → H' p = some (.tup [.int c.size, .int c.depth]) → Q (.ref p) H') : Out5 H c Q :=
  ⟨fun _ => k, fun e' q => by
    rw [h] at q
    cases q⟩
theorem pair_lay (a b : Int) : PyData.canLay0 (.tuple [.int a, .int b]) = true := rfl
theorem pair_shaped (a b : Int) : SeqAt.shaped (.tuple [.int a, .int b]) = true := by
  unfold SeqAt.shaped
  rw [pair_lay, decide_eq_true (by simp [PyData.depth, PyData.depthAll])]
  rfl
theorem pair_ne {K : PySem.W.Frag} {H : Hp} {p q : Addr} {a b : Int} {Q : VK} (hp : H p = some (.tup [.int a, .int b])) (hq : H q = some (.tup [.int a, .int b])) (k : Q (.bl false) H) : rNeD K (.ref p) (.ref q) H Q := by
  refine ⟨.tuple [.int a, .int b], .tuple [.int a, .int b], .tup (SqT.of hp) (.cons (.int _) (.cons (.int _) .nil)), .tup (SqT.of hq) (.cons (.int _) (.cons (.int _) .nil)), pair_shaped a b, pair_shaped a b, ?_⟩
  rw [SeqAt.eqv_refl _ (pair_lay a b)]
  exact k
theorem pair_eq {K : PySem.W.Frag} {H : Hp} {p q : Addr} {a b : Int} {Q : VK} (hp : H p = some (.tup [.int a, .int b])) (hq : H q = some (.tup [.int a, .int b])) (k : Q (.bl true) H) : rEqD K (.ref p) (.ref q) H Q := by
  refine ⟨.tuple [.int a, .int b], .tuple [.int a, .int b], .tup (SqT.of hp) (.cons (.int _) (.cons (.int _) .nil)), .tup (SqT.of hq) (.cons (.int _) (.cons (.int _) .nil)), pair_shaped a b, pair_shaped a b, ?_⟩
  rw [SeqAt.eqv_refl _ (pair_lay a b)]
  exact k
/-- what the large ones are -/
theorem large_facts {n : Str} {cs : List Cond} (hn : isName n = true) (m1 : ∀ d ∈ cs, d = .contact n ∨ d = .not (.contact n)) : Cond.oks cs = true ∧ Cond.depths cs ≤ 2 ∧ Cond.thins cs = true := by
  induction cs with
  | nil => exact ⟨rfl, Nat.zero_le _, rfl⟩
  | cons x r ih =>
    obtain ⟨i1, i2, i3⟩ := ih fun d hd => m1 d (List.mem_cons_of_mem _ hd)
    have hl : n.length ≤ 1000000 := by have := isName_len hn; omega
    rcases m1 x List.mem_cons_self with rfl | rfl
    · exact ⟨by simp [Cond.oks, Cond.ok, hn, i1], by simp [Cond.depths, Cond.depth]; omega, by simp [Cond.thins, Cond.thin, hl, i3]⟩
    · exact ⟨by simp [Cond.oks, Cond.ok, hn, i1], by simp [Cond.depths, Cond.depth]; omega, by simp [Cond.thins, Cond.thin, hl, i3]⟩
theorem large_depth {n : Str} {cs : List Cond} (s : Bool) (hn : isName n = true) (m1 : ∀ d ∈ cs, d = .contact n ∨ d = .not (.contact n)) (m4 : Cond.not (.contact n) ∈ cs) : (Cond.grp s cs).depth = 3 := by
  have h1 := (large_facts hn m1).2.1
  have h2 := Cond.depth_mem m4
  have h3 : (Cond.not (.contact n)).depth = 2 := by simp [Cond.depth]
  rw [Cond.depth]
  omega
section
variable {P : Program} {w : World} {K : PySem.W.Frag} {mg : Str → Option Value} {base : Heap} {cl : Cl} {xc : Xc} {xo : Xo}
def spFar : Sp := fun vs H Q _ => ∃ (n z : Str) (c : Int), vs = [.str n, .str z, .int c] ∧ isName n = true ∧ isName z = false ∧ z.length ≤ 1000 ∧ 0 ≤ c ∧ ∀ H' : Hp, Same H H' → Q (.bl true) H'
theorem ok_far (T : TTop K mg cl xc xo) : FnAt P w K mg base CX0 "_law_far" 30 ["_law_name", "_law_bad", "_law_cell"] spFar := by
  have G__law_told : FnAt P w K mg base CX0 "_law_told" 29 _ (spTold5 K cl) := ok_told5 T.kind
  have G__law_deep : FnAt P w K mg base CX0 "_law_deep" 1 _ spDeep := ok_deep T.draw
  refine fnAt_ok T.d_far sc__law_far (fun vs H Q E h => ?_) (fun f cdv A outer s H vs Q E hr h => ?_)
  · obtain ⟨n, z, c, rfl, _⟩ := h; rfl
  · obtain ⟨n, z, c, rfl, hn, hz, hl, hc, k⟩ := h
    have hnl := isName_len hn
    refine ⟨_, (pss_cons (ps_if (pt_cmpR op_ne (pe_callF G__law_told hr pass0 (pa_cons pe_int (pa_cons (pe_callF G__law_deep hr pass0 (pa_cons (pv 1) (pa_cons pe_int (pa_cons (pv 2) pa_nil)))) pa_nil))) pe_str (nomark _)) (pss_one (ps_ret pe_bl)) pss_nil)
        (pss_one (ps_ret (pe_cmpR op_eq (pe_callF G__law_told hr pass0 (pa_cons pe_int (pa_cons (pe_callF G__law_deep hr pass0 (pa_cons (pv 0) (pa_cons pe_int (pa_cons (pv 2) pa_nil)))) pa_nil))) pe_str (nomark _))))), ?_⟩
    walk_at "rd"
    refine ⟨z, 1500, c, rfl, by decide, by decide, hc, fun H1 v s1 pv_ => ?_⟩
    have e15 : ((1500 : Int) - 1).toNat = 1499 := by decide
    rw [e15] at pv_
    refine ⟨4, v, _, rfl, .tup pv_ (deep_thin (by omega) c _) (by have := deep_size z c 1499; omega), told_bad (deep_bad hz c _) fun H2 s2 => ⟨scal_ss, ?_⟩⟩
    rw [decide_eq_true (show V.str (kindT false) = V.str "name" from rfl)]
    refine iteF ⟨n, 1500, c, rfl, by decide, by decide, hc, fun H3 v3 s3 p3 => ?_⟩
    rw [e15] at p3
    refine ⟨4, v3, _, rfl, .tup p3 (deep_thin (by omega) c _) (by have := deep_size n c 1499; omega), told_bad (deep_far hn c 1479) fun H4 s4 => ⟨scal_ss, ?_⟩⟩
    rw [decide_eq_true (show V.str (kindT true) = V.str "part" from rfl)]
    exact k _ ((s1.trans s2).trans (s3.trans s4))
def spBounds : Sp := fun vs H Q _ => ∃ (n : Str) (c : Int), vs = [.str n, .int c] ∧ isName n = true ∧ 0 ≤ c ∧ ∀ H' : Hp, Same H H' → Q (.bl true) H'
theorem ok_bounds (T : TTop K mg cl xc xo) : FnAt P w K mg base CX0 "_law_bounds" 30 ["_law_name", "_law_cell"] spBounds := by
  have G__law_told : FnAt P w K mg base CX0 "_law_told" 29 _ (spTold5 K cl) := ok_told5 T.kind
  have G__law_deep : FnAt P w K mg base CX0 "_law_deep" 1 _ spDeep := ok_deep T.draw
  have G__law_large : FnAt P w K mg base CX0 "_law_large" 1 _ spLarge := ok_large T.draw
  have TP := T.kind.ref.partof
  have G_part_of : FnAt P w K mg base CX0 "part_of" 26 _ (spPartOf cl) := ok_part_of TP
  have M_Contact : MakAt P w K mg base CX0 "Contact" cl.ct 3 ["self", "name"] (spInitCt cl) := ok_init_ct TP.make
  have G_size : DispAt P w K mg base CX0 cl.has "size" 21 ["self"] (spSize cl 20) := disp_size TP.make.parts 20
  refine fnAt_ok T.d_bounds sc__law_bounds (fun vs H Q E h => ?_) (fun f cdv A outer s H vs Q E hr h => ?_)
  · obtain ⟨n, c, rfl, _⟩ := h; rfl
  · obtain ⟨n, c, rfl, hn, hc, k⟩ := h
    have hnl := isName_len hn
    refine ⟨_, (pss_cons (ps_set (i := 2) sc__law_bounds.nd rfl (by first | exact Or.inl rfl | exact Or.inr rfl) (pe_callF G__law_deep hr pass0 (pa_cons (pv 0) (pa_cons pe_int (pa_cons (pv 1) pa_nil)))))
        (pss_cons (ps_if (PW.pt (pw_or (pt_cmpR (op_neD hr.units) (pe_callF G__law_told hr pass0 (pa_cons pe_int (pa_cons (pv 2) pa_nil))) (pe_tup (pa_cons (pe_methD0 G_size hr pass0 (pe_callF G_part_of hr pass0 (pa_cons (pv 2) pa_nil))) (pa_cons pe_int pa_nil))) (nomark _)) (pw_or1 (pt_cmpR op_ne (pe_callF G__law_told hr pass0 (pa_cons pe_int (pa_cons (pe_callF G_part_of hr pass0 (pa_cons (pv 2) pa_nil)) pa_nil))) pe_str (nomark _))))) (pss_one (ps_ret pe_bl)) pss_nil)
        (pss_cons (ps_if (pt_cmpR op_ne (pe_callF G__law_told hr pass0 (pa_cons (pe_op op_add pe_int (pe_op op_mod (pv 1) pe_int)) (pa_cons (pe_lst (pa_cons (pe_makeF M_Contact hr pass0 (pa_cons (pv 0) pa_nil)) (pa_cons (pe_callF G_part_of hr pass0 (pa_cons (pv 2) pa_nil)) pa_nil))) pa_nil))) pe_str (nomark _)) (pss_one (ps_ret pe_bl)) pss_nil)
        (pss_cons (ps_if (pt_cmpR op_ne (pe_callF G__law_told hr pass0 (pa_cons pe_int (pa_cons (pe_callF G__law_deep hr pass0 (pa_cons (pv 0) (pa_cons pe_int (pa_cons (pv 1) pa_nil)))) pa_nil))) pe_str (nomark _)) (pss_one (ps_ret pe_bl)) pss_nil)
        (pss_cons (ps_if (PW.pt (pw_or (pt_cmpR (op_neD hr.units) (pe_callF G__law_told hr pass0 (pa_cons pe_int (pa_cons (pe_callF G__law_large hr pass0 (pa_cons (pv 0) (pa_cons pe_int (pa_cons (pv 1) pa_nil)))) pa_nil))) (pe_tup (pa_cons pe_int (pa_cons pe_int pa_nil))) (nomark _)) (pw_or1 (pt_cmpR op_ne (pe_callF G__law_told hr pass0 (pa_cons pe_int (pa_cons (pe_callF G__law_large hr pass0 (pa_cons (pv 0) (pa_cons pe_int (pa_cons (pv 1) pa_nil)))) pa_nil))) pe_str (nomark _))))) (pss_one (ps_ret pe_bl)) pss_nil)
        (pss_cons (ps_if (pt_cmpR (op_neD hr.units) (pe_callF G__law_told hr pass0 (pa_cons pe_int (pa_cons (pe_callF G_part_of hr pass0 (pa_cons (pe_callF G__law_large hr pass0 (pa_cons (pv 0) (pa_cons pe_int (pa_cons (pv 1) pa_nil)))) pa_nil)) pa_nil))) (pe_tup (pa_cons pe_int (pa_cons pe_int pa_nil))) (nomark _)) (pss_one (ps_ret pe_bl)) pss_nil)
        (pss_one (ps_ret (pe_cmpR op_eq (pe_callF G__law_told hr pass0 (pa_cons pe_int (pa_cons (pe_callF G_part_of hr pass0 (pa_cons (pe_callF G__law_large hr pass0 (pa_cons (pv 0) (pa_cons pe_int (pa_cons (pv 1) pa_nil)))) pa_nil)) pa_nil))) pe_str (nomark _)))))))))), ?_⟩
    walk_at "rd"
    have e20 : ((20 : Int) - 1).toNat = 19 := by decide
    have e21 : ((21 : Int) - 1).toNat = 20 := by decide
    have gb := deep_good hn c (Nat.le_refl 19)
    have gok := deep_ok hn c 19
    have gsz := deep_size n c 19
    have gdp := deep_depth n c 19
    have gth := deep_thin (show n.length ≤ 1000000 by omega) c 19
    have hcb : (Cond.contact n).bad = none := by rw [bad_ct, if_pos hn]
    refine ⟨n, 20, c, rfl, by decide, by decide, hc, fun H1 v s1 pv_ => ?_⟩
    rw [e20] at pv_
    generalize deepC n c 19 = D at pv_ gb gok gsz gdp gth
    refine ⟨4, v, D, rfl, .tup pv_ gth (by omega), told_good gb fun H2 p2 s2 hp2 => ?_⟩
    rw [gdp] at hp2
    have pv2 := pv_.mono (T := cl.has) (Same.imm s2)
    refine ⟨_, rfl, v, D, rfl, pv2, gok, by omega, by omega, fun H3 x s3 px => ?_⟩
    obtain ⟨_, C, dx, fs, ea, ha, hC, _⟩ := meth_of (m := "size") (by decide +kernel) px
    cases ea
    refine ⟨x, C, dx, fs, rfl, ha, hC, look_of (by decide +kernel) ha px, x, dx, fs, D, rfl, ha, px, by omega, by omega, fun H4 s4 => ⟨line_ge (by simp), fun p4 np4 => ?_⟩⟩
    have s14 := (s2.trans (s3.trans s4)).trans (Same.new (o := .tup [.int D.size, .int 20]) np4)
    have s24 := (s3.trans s4).trans (Same.new (o := .tup [.int D.size, .int 20]) np4)
    refine pair_ne (a := D.size) (b := 20) (s24 _ _ hp2) upd_same ⟨false, rfl, iteF ?_⟩
    generalize upd H4 p4 (.tup [.int D.size, .int 20]) = H5 at s14
    have pv5 := pv_.mono (T := cl.has) (Same.imm s14)
    refine ⟨v, D, rfl, pv5, gok, by omega, by omega, fun H6 x6 s6 p6 => ⟨1, .ref x6, .not D, rfl, .tn p6 gb, told_bad (e := true) (by rw [bad_not gb, if_pos (big_deep (by rw [Cond.depth]; omega))]) fun H7 s7 => ⟨scal_ss, ?_⟩⟩⟩
    rw [decide_eq_true (show V.str (kindT true) = V.str "part" from rfl)]
    refine iteF ⟨_, rfl, ?_⟩
    intro x8 dx8 nx8 nd8 _
    refine ⟨x8, dx8, n, rfl, upd_same, line_ge (by omega), hn, fun H8 k8 b8 => ⟨rfl, ?_⟩⟩
    have s8 : Same H7 H8 := fun c o e => b8 c o (same_make nx8 nd8 c o e) (ne_of_none e nx8)
    have p8 : IsP cl H8 (.ref x8) (.contact n) := .contact k8
    have s18 := s14.trans ((s6.trans s7).trans s8)
    refine ⟨v, D, rfl, pv_.mono (T := cl.has) (Same.imm s18), gok, by omega, by omega, fun H9 x9 s9 p9 => ⟨line_ge (by simp), fun l9 nl9 => ?_⟩⟩
    have t9 := Same.new (o := .lst [.ref x8, .ref x9]) nl9
    obtain ⟨sd, hsd⟩ : ∃ sd : Bool, 2 + c % 2 = if sd then (2 : Int) else 3 := by
      rcases (by omega : c % 2 = 0 ∨ c % 2 = 1) with h | h
      · exact ⟨true, by rw [h]; rfl⟩
      · exact ⟨false, by rw [h]; rfl⟩
    rw [hsd]
    have b2 : Cond.bads [.contact n, D] = none := by rw [bads_two, hcb, gb]
    refine ⟨_, .ref l9, .grp sd [.contact n, D], rfl, .gr (.inl (SqL.of upd_same)) (.cons ((p8.mono (Same.imm s9)).mono (Same.imm t9)) (.cons (p9.mono (Same.imm t9)) .nil)) b2 (by simp [Cond.thin, Cond.thins, gth]; omega), told_bad (e := true) (by rw [bad_grp b2, if_neg (by simp), if_pos (big_deep (by simp [Cond.depth, Cond.depths, gdp]))]) fun H10 s10 => ⟨scal_ss, ?_⟩⟩
    rw [decide_eq_true (show V.str (kindT true) = V.str "part" from rfl)]
    have s110 := s18.trans ((s9.trans t9).trans s10)
    refine iteF ⟨n, 21, c, rfl, by decide, by decide, hc, fun H11 v11 s11 p11 => ?_⟩
    rw [e21] at p11
    refine ⟨4, v11, _, rfl, .tup p11 (deep_thin (by omega) c _) (by have := deep_size n c 20; omega), told_bad (deep_far hn c 0) fun H12 s12 => ⟨scal_ss, ?_⟩⟩
    rw [decide_eq_true (show V.str (kindT true) = V.str "part" from rfl)]
    refine iteF ⟨n, 60, c, rfl, by decide, by decide, hc, fun H13 v13 g13 c13 s13 p13 m1 m2 m3 m4 => ?_⟩
    have f13 := large_facts hn m1
    have d13 := large_depth g13 hn m1 m4
    have z13 : (Cond.grp g13 c13).size = 60 := by rw [Cond.size, m3]; rfl
    have l13 : c13.length = 58 := by rw [m2]; rfl
    have n13 : Cond.sizes c13 = 59 := by rw [m3]; rfl
    refine ⟨4, v13, _, rfl, .tup p13 (by rw [Cond.thin, f13.2.2, n13]; simp) (by omega), told_good (Cond.bad_ok (by rw [Cond.ok, f13.1, l13]; rfl) (by omega) (by omega)) fun H14 p14 s14' hp14 => ⟨line_ge (by simp), fun p15 np15 => ?_⟩⟩
    rw [z13, d13] at hp14
    refine pair_ne (a := 60) (b := 3) (Same.new np15 _ _ hp14) upd_same ⟨false, rfl, iteF ?_⟩
    have t15 := s14'.trans (Same.new (o := .tup [.int 60, .int 3]) np15)
    generalize upd H14 p15 (.tup [.int 60, .int 3]) = H15 at t15
    refine ⟨n, 61, c, rfl, by decide, by decide, hc, fun H16 v16 g16 c16 s16 p16 q1 q2 q3 q4 => ?_⟩
    have f16 := large_facts hn q1
    have d16 := large_depth g16 hn q1 q4
    have z16 : (Cond.grp g16 c16).size = 61 := by rw [Cond.size, q3]; rfl
    have l16 : c16.length = 59 := by rw [q2]; rfl
    have n16 : Cond.sizes c16 = 60 := by rw [q3]; rfl
    have b16 : Cond.bads c16 = none := Cond.bads_ok f16.1 (by omega) (by omega)
    refine ⟨4, v16, _, rfl, .tup p16 (by rw [Cond.thin, f16.2.2, n16]; simp) (by omega), told_bad (e := true) (by rw [bad_grp b16, if_neg (by omega), if_pos (big_size (by omega))]) fun H17 s17 => ⟨scal_ss, ?_⟩⟩
    rw [decide_eq_true (show V.str (kindT true) = V.str "part" from rfl)]
    refine iteF ⟨n, 59, c, rfl, by decide, by decide, hc, fun H18 v18 g18 c18 s18' p18 r1 r2 r3 r4 => ?_⟩
    have f18 := large_facts hn r1
    have d18 := large_depth g18 hn r1 r4
    have z18 : (Cond.grp g18 c18).size = 59 := by rw [Cond.size, r3]; rfl
    have l18 : c18.length = 57 := by rw [r2]; rfl
    have ok18 : (Cond.grp g18 c18).ok = true := by rw [Cond.ok, f18.1, l18]; rfl
    have b18 := Cond.bad_ok ok18 (by omega) (by omega)
    refine ⟨v18, _, rfl, p18, ok18, by omega, by omega, fun H19 x19 s19 p19 => ⟨1, .ref x19, _, rfl, .tn p19 b18, told_good (by rw [bad_not b18, if_neg (by rw [big_of (by rw [Cond.size]; omega) (by rw [Cond.depth]; omega)]; exact Bool.false_ne_true)]) fun H20 p20 s20 hp20 => ⟨line_ge (by simp), fun p21 np21 => ?_⟩⟩⟩
    rw [Cond.size, Cond.depth, z18, d18] at hp20
    refine pair_ne (a := 60) (b := 4) (Same.new np21 _ _ hp20) upd_same ⟨false, rfl, iteF ?_⟩
    have t21 := s20.trans (Same.new (o := .tup [.int 60, .int 4]) np21)
    generalize upd H20 p21 (.tup [.int 60, .int 4]) = H21 at t21
    refine ⟨n, 60, c, rfl, by decide, by decide, hc, fun H22 v22 g22 c22 s22 p22 o1 o2 o3 o4 => ?_⟩
    have f22 := large_facts hn o1
    have d22 := large_depth g22 hn o1 o4
    have z22 : (Cond.grp g22 c22).size = 60 := by rw [Cond.size, o3]; rfl
    have l22 : c22.length = 58 := by rw [o2]; rfl
    have ok22 : (Cond.grp g22 c22).ok = true := by rw [Cond.ok, f22.1, l22]; rfl
    have b22 := Cond.bad_ok ok22 (by omega) (by omega)
    refine ⟨v22, _, rfl, p22, ok22, by omega, by omega, fun H23 x23 s23 p23 => ⟨1, .ref x23, _, rfl, .tn p23 b22, told_bad (e := true) (by rw [bad_not b22, if_pos (big_size (by rw [Cond.size]; omega))]) fun H24 s24' => ⟨scal_ss, ?_⟩⟩⟩
    rw [decide_eq_true (show V.str (kindT true) = V.str "part" from rfl)]
    exact k _ ((s1.trans s110).trans ((((s11.trans s12).trans (s13.trans t15)).trans ((s16.trans s17).trans (s18'.trans (s19.trans t21)))).trans ((s22.trans s23).trans s24')))
theorem ok_few (T : TTop K mg cl xc xo) : FnAt P w K mg base CX0 "_law_few" 30 ["_law_name", "_law_cell"] spBounds := by
  have G__law_told : FnAt P w K mg base CX0 "_law_told" 29 _ (spTold5 K cl) := ok_told5 T.kind
  have TP := T.kind.ref.partof
  have M_Contact : MakAt P w K mg base CX0 "Contact" cl.ct 3 ["self", "name"] (spInitCt cl) := ok_init_ct TP.make
  have M_Fixed : MakAt P w K mg base CX0 "Fixed" cl.fx 1 ["self", "value"] (spInitFx cl) := ok_init_fx TP.make
  refine fnAt_ok T.d_few sc__law_few (fun vs H Q E h => ?_) (fun f cdv A outer s H vs Q E hr h => ?_)
  · obtain ⟨n, c, rfl, _⟩ := h; rfl
  · obtain ⟨n, c, rfl, hn, hc, k⟩ := h
    have hnl := isName_len hn
    refine ⟨_, (pss_cons (ps_set (i := 2) sc__law_few.nd rfl (by first | exact Or.inl rfl | exact Or.inr rfl) (pe_ix ix_list (pe_lst (pa_cons (pe_makeF M_Contact hr pass0 (pa_cons (pv 0) pa_nil)) (pa_cons (pe_makeF M_Fixed hr pass0 (pa_cons (pe_cmpR op_eq (pe_op op_mod (pv 1) pe_int) pe_int (nomark _)) pa_nil)) pa_nil))) (pe_op op_mod (pe_op op_fdiv (pv 1) pe_int) pe_int) (fun _ _ => rfl)))
        (pss_cons (ps_for PassesOwn.never rfl (pi_list (pe_lst (pa_cons pe_int (pa_cons pe_int pa_nil)))) (pg_name (i := 3) sc__law_few.nd rfl (by first | exact Or.inl rfl | exact Or.inr rfl)) (pss_one (ps_if (PW.pt (pw_or (pt_cmpR op_ne (pe_callF G__law_told hr pass0 (pa_cons (pv 3) (pa_cons (pe_lst pa_nil) pa_nil))) pe_str (nomark _)) (pw_or (pt_cmpR op_ne (pe_callF G__law_told hr pass0 (pa_cons (pv 3) (pa_cons (pe_tup (pa_cons (pv 2) pa_nil)) pa_nil))) pe_str (nomark _)) (pw_or1 (pt_cmpR (op_neD hr.units) (pe_callF G__law_told hr pass0 (pa_cons (pv 3) (pa_cons (pe_lst (pa_cons (pv 2) (pa_cons (pv 2) pa_nil))) pa_nil))) (pe_tup (pa_cons pe_int (pa_cons pe_int pa_nil))) (nomark _)))))) (pss_one (ps_ret pe_bl)) pss_nil)))
        (pss_cons (ps_set (i := 4) sc__law_few.nd rfl (by first | exact Or.inl rfl | exact Or.inr rfl) (pe_ix ix_list (pe_lst (pa_cons (pe_tup (pa_cons pe_str (pa_cons (pe_tup (pa_cons pe_str (pa_cons (pv 0) pa_nil))) pa_nil))) (pa_cons (pe_tup (pa_cons pe_str pa_nil)) (pa_cons (pe_tup (pa_cons pe_str (pa_cons (pe_tup (pa_cons pe_str (pa_cons (pe_tup (pa_cons pe_str (pa_cons pe_bl pa_nil))) pa_nil))) pa_nil))) pa_nil)))) (pe_op op_mod (pe_op op_fdiv (pv 1) pe_int) pe_int) (fun _ _ => rfl)))
        (pss_one (ps_ret (pe_cmpR op_eq (pe_callF G__law_told hr pass0 (pa_cons pe_int (pa_cons (pe_tup (pa_cons pe_str (pa_cons (pe_tup (pa_cons pe_str (pa_cons (pv 0) pa_nil))) (pa_cons (pv 4) pa_nil)))) pa_nil))) pe_str (nomark _))))))), ?_⟩
    walk_at "rd"
    have hcb : (Cond.contact n).bad = none := by rw [bad_ct, if_pos hn]
    refine ⟨_, rfl, ?_⟩
    intro x1 dx1 nx1 nd1 _
    refine ⟨x1, dx1, n, rfl, upd_same, line_ge (by omega), hn, fun H1 k1 b1 => ⟨rfl, ?_⟩⟩
    have s1 : Same H H1 := fun c o e => b1 c o (same_make nx1 nd1 c o e) (ne_of_none e nx1)
    have q1 : IsP cl H1 (.ref x1) (.contact n) := .contact k1
    unfold tMake
    walk_at "rd"
    intro x2 dx2 nx2 nd2 _
    refine ⟨x2, dx2, _, rfl, upd_same, fun H2 k2 b2 => ⟨rfl, ?_⟩⟩
    have s2 : Same H1 H2 := fun c o e => b2 c o (same_make nx2 nd2 c o e) (ne_of_none e nx2)
    have q2 : IsP cl H2 (.ref x2) (.fixed (decide (c % 2 = 0))) := .fixed k2
    refine ⟨line_ge (by simp), fun l nl => ?_⟩
    have s3 := Same.new (o := .lst [.ref x1, .ref x2]) nl
    obtain ⟨y, hy, hya⟩ := atI_ex (xs := [V.ref x1, .ref x2]) (Int.emod_nonneg (c / 2) (show (2 : Int) ≠ 0 by decide)) (Int.emod_lt_of_pos (c / 2) (show (0 : Int) < 2 by decide))
    obtain ⟨o, co, rfl, po, bo, zo, do_, to_⟩ : ∃ o co, y = .ref o ∧ IsP cl H2 (.ref o) co ∧ co.bad = none ∧ co.size = 1 ∧ co.depth = 1 ∧ co.thin = true := by
      simp only [List.mem_cons, List.not_mem_nil, or_false] at hy
      rcases hy with rfl | rfl
      · exact ⟨_, _, rfl, q1.mono (Same.imm s2), hcb, by simp [Cond.size], by simp [Cond.depth], by rw [Cond.thin]; exact decide_eq_true (by omega)⟩
      · exact ⟨_, _, rfl, q2, rfl, by simp [Cond.size], by simp [Cond.depth], rfl⟩
    refine ⟨l, _, _, .ref o, rfl, rfl, SqL.of upd_same, hya, ?_⟩
    generalize upd H2 l (.lst [.ref x1, .ref x2]) = H3 at s3 ⊢
    have po3 := po.mono (Same.imm s3)
    have zz := (s1.trans s2).trans s3
    refine ⟨line_ge (by simp), fun l2 nl2 => ?_⟩
    have s4 := Same.new (o := .lst [.int 2, .int 3]) nl2
    have h4 := upd_same (H := H3) (a := l2) (o := .lst [.int 2, .int 3])
    generalize upd H3 l2 (.lst [.int 2, .int 3]) = H4 at s4 h4 ⊢
    have po4 := po3.mono (Same.imm s4)
    have zz4 := zz.trans s4
    have b1' : Cond.bads [co] = none := by rw [Cond.bads, bo]; rfl
    have b2' : Cond.bads [co, co] = none := by rw [bads_two, bo]
    refine ⟨l2, rfl, ⟨_, SqL.of h4⟩, for_list (K := K) (a := l2) (xs := [.int 2, .int 3]) (fun i σ H' => ∃ v3 : Option V, σ = [some (.str n), some (.int c), some (.ref o), v3, none] ∧ Same H4 H')
      ⟨none, rfl, Same.refl _⟩ (fun i σ H' _ ⟨_, _, z⟩ => SqL.of (z _ _ h4)) ?_ ?_⟩
    · rintro i y σ H5 hy ⟨v3, rfl, s5⟩
      obtain ⟨sd, rfl⟩ : ∃ sd : Bool, y = .int (if sd then 2 else 3) := by
        have hm := List.mem_of_getElem? hy
        simp only [List.mem_cons, List.not_mem_nil, or_false] at hm
        rcases hm with rfl | rfl
        · exact ⟨true, rfl⟩
        · exact ⟨false, rfl⟩
      walk_at "rd"
      refine ⟨line_ge (by simp), fun l5 nl5 => ?_⟩
      refine ⟨_, .ref l5, .grp sd [], rfl, .gr (.inl (SqL.of upd_same)) .nil rfl (by simp [Cond.thin, Cond.thins]), told_bad (e := true) (by rw [bad_grp rfl, if_pos (by simp)]) fun H6 s6 => ⟨scal_ss, ?_⟩⟩
      rw [decide_eq_true (show V.str (kindT true) = V.str "part" from rfl)]
      have w6 := s5.trans ((Same.new (o := .lst []) nl5).trans s6)
      refine iteF ⟨line_ge (by simp), fun l7 nl7 => ?_⟩
      have w7 := w6.trans (Same.new (o := .tup [.ref o]) nl7)
      refine ⟨_, .ref l7, .grp sd [co], rfl, .gr (.inr ⟨SqT.of upd_same, by simp⟩) (.cons (po4.mono (Same.imm w7)) .nil) b1' (by simp [Cond.thin, Cond.thins, to_]), told_bad (e := true) (by rw [bad_grp b1', if_pos (by simp)]) fun H8 s8 => ⟨scal_ss, ?_⟩⟩
      rw [decide_eq_true (show V.str (kindT true) = V.str "part" from rfl)]
      have w8 := w7.trans s8
      refine iteF ⟨line_ge (by simp), fun l9 nl9 => ?_⟩
      have w9 := w8.trans (Same.new (o := .lst [.ref o, .ref o]) nl9)
      have z9 : (Cond.grp sd [co, co]).size = 3 := by simp [Cond.size, Cond.sizes, zo]
      have d9 : (Cond.grp sd [co, co]).depth = 2 := by simp [Cond.depth, Cond.depths, do_]
      refine ⟨_, .ref l9, .grp sd [co, co], rfl, .gr (.inl (SqL.of upd_same)) (.cons (po4.mono (Same.imm w9)) (.cons (po4.mono (Same.imm w9)) .nil)) b2' (by simp [Cond.thin, Cond.thins, to_]), told_good (by rw [bad_grp b2', if_neg (by simp), if_neg (by rw [big_of (by omega) (by omega)]; exact Bool.false_ne_true)]) fun H10 p10 s10 hp10 => ⟨line_ge (by simp), fun p11 np11 => ?_⟩⟩
      rw [z9, d9] at hp10
      refine pair_ne (a := 3) (b := 2) (Same.new np11 _ _ hp10) upd_same ⟨false, rfl, iteF ?_⟩
      exact w9.trans (s10.trans (Same.new np11))
    · rintro σ H5 ⟨v3, rfl, s5⟩
      walk_at "rd"
      have zz := zz4.trans s5
      refine ⟨line_ge (by simp), fun a31 na31 => ?_⟩
      have ea31 : Same H5 (upd H5 a31 (.tup [.str "contact", .str n])) := Same.new na31
      have ha31 : upd H5 a31 (.tup [.str "contact", .str n]) a31 = some (.tup [.str "contact", .str n]) := upd_same
      have zz := zz.trans ea31
      generalize upd H5 a31 (.tup [.str "contact", .str n]) = G31 at ea31 ha31 zz ⊢
      have tc : IsT G31 (.ref a31) (.contact n) := .contact ha31
      refine ⟨line_ge (by simp), fun a32 na32 => ?_⟩
      have ea32 : Same G31 (upd G31 a32 (.tup [.str "and", .ref a31])) := Same.new na32
      have ha32 : upd G31 a32 (.tup [.str "and", .ref a31]) a32 = some (.tup [.str "and", .ref a31]) := upd_same
      have tc := tc.mono (T := fun _ => False) (Same.imm ea32)
      have zz := zz.trans ea32
      generalize upd G31 a32 (.tup [.str "and", .ref a31]) = G32 at ea32 ha32 zz tc ⊢
      have t1 : IsT G32 (.ref a32) (.grp true [.contact n]) := .grp (s := true) ha32 (.cons tc .nil)
      refine ⟨line_ge (by simp), fun a33 na33 => ?_⟩
      have ea33 : Same G32 (upd G32 a33 (.tup [.str "or"])) := Same.new na33
      have ha33 : upd G32 a33 (.tup [.str "or"]) a33 = some (.tup [.str "or"]) := upd_same
      have tc := tc.mono (T := fun _ => False) (Same.imm ea33)
      have t1 := t1.mono (T := fun _ => False) (Same.imm ea33)
      have zz := zz.trans ea33
      generalize upd G32 a33 (.tup [.str "or"]) = G33 at ea33 ha33 zz tc t1 ⊢
      have t2 : IsT G33 (.ref a33) (.grp false []) := .grp (s := false) ha33 .nil
      refine ⟨line_ge (by simp), fun a34 na34 => ?_⟩
      have ea34 : Same G33 (upd G33 a34 (.tup [.str "fixed", .bl true])) := Same.new na34
      have ha34 : upd G33 a34 (.tup [.str "fixed", .bl true]) a34 = some (.tup [.str "fixed", .bl true]) := upd_same
      have tc := tc.mono (T := fun _ => False) (Same.imm ea34)
      have t1 := t1.mono (T := fun _ => False) (Same.imm ea34)
      have t2 := t2.mono (T := fun _ => False) (Same.imm ea34)
      have zz := zz.trans ea34
      generalize upd G33 a34 (.tup [.str "fixed", .bl true]) = G34 at ea34 ha34 zz tc t1 t2 ⊢
      have tx : IsT G34 (.ref a34) (.fixed true) := .fixed ha34
      refine ⟨line_ge (by simp), fun a35 na35 => ?_⟩
      have ea35 : Same G34 (upd G34 a35 (.tup [.str "or", .ref a34])) := Same.new na35
      have ha35 : upd G34 a35 (.tup [.str "or", .ref a34]) a35 = some (.tup [.str "or", .ref a34]) := upd_same
      have tc := tc.mono (T := fun _ => False) (Same.imm ea35)
      have t1 := t1.mono (T := fun _ => False) (Same.imm ea35)
      have t2 := t2.mono (T := fun _ => False) (Same.imm ea35)
      have tx := tx.mono (T := fun _ => False) (Same.imm ea35)
      have zz := zz.trans ea35
      generalize upd G34 a35 (.tup [.str "or", .ref a34]) = G35 at ea35 ha35 zz tc t1 t2 tx ⊢
      have t3 : IsT G35 (.ref a35) (.grp false [.fixed true]) := .grp (s := false) ha35 (.cons tx .nil)
      refine ⟨line_ge (by simp), fun a36 na36 => ?_⟩
      have ea36 : Same G35 (upd G35 a36 (.tup [.str "not", .ref a35])) := Same.new na36
      have ha36 : upd G35 a36 (.tup [.str "not", .ref a35]) a36 = some (.tup [.str "not", .ref a35]) := upd_same
      have tc := tc.mono (T := fun _ => False) (Same.imm ea36)
      have t1 := t1.mono (T := fun _ => False) (Same.imm ea36)
      have t2 := t2.mono (T := fun _ => False) (Same.imm ea36)
      have tx := tx.mono (T := fun _ => False) (Same.imm ea36)
      have t3 := t3.mono (T := fun _ => False) (Same.imm ea36)
      have zz := zz.trans ea36
      generalize upd G35 a36 (.tup [.str "not", .ref a35]) = G36 at ea36 ha36 zz tc t1 t2 tx t3 ⊢
      have t4 : IsT G36 (.ref a36) (.not (.grp false [.fixed true])) := .not ha36 t3
      refine ⟨line_ge (by simp), fun a37 na37 => ?_⟩
      have ea37 : Same G36 (upd G36 a37 (.lst [.ref a32, .ref a33, .ref a36])) := Same.new na37
      have ha37 : upd G36 a37 (.lst [.ref a32, .ref a33, .ref a36]) a37 = some (.lst [.ref a32, .ref a33, .ref a36]) := upd_same
      have tc := tc.mono (T := fun _ => False) (Same.imm ea37)
      have t1 := t1.mono (T := fun _ => False) (Same.imm ea37)
      have t2 := t2.mono (T := fun _ => False) (Same.imm ea37)
      have tx := tx.mono (T := fun _ => False) (Same.imm ea37)
      have t3 := t3.mono (T := fun _ => False) (Same.imm ea37)
      have t4 := t4.mono (T := fun _ => False) (Same.imm ea37)
      have zz := zz.trans ea37
      generalize upd G36 a37 (.lst [.ref a32, .ref a33, .ref a36]) = G37 at ea37 ha37 zz tc t1 t2 tx t3 t4 ⊢
      obtain ⟨y, hy, hya⟩ := atI_ex (xs := [V.ref a32, .ref a33, .ref a36]) (Int.emod_nonneg (c / 4) (show (3 : Int) ≠ 0 by decide)) (Int.emod_lt_of_pos (c / 4) (show (0 : Int) < 3 by decide))
      have hnl2 : n.length ≤ 1000000 := by omega
      have hfx : Cond.bads [.fixed true] = none := rfl
      have hb4 : (Cond.grp false [.fixed true]).bad = some true := by rw [bad_grp hfx, if_pos (by simp)]
      have hc1 : Cond.bads [.contact n] = none := by rw [Cond.bads, hcb]; rfl
      obtain ⟨d1, td1, bd1, hd1, zd1⟩ : ∃ d, IsT G37 y d ∧ d.bad = some true ∧ d.thin = true ∧ d.size ≤ 100 := by
        simp only [List.mem_cons, List.not_mem_nil, or_false] at hy
        rcases hy with rfl | rfl | rfl
        · exact ⟨_, t1, by rw [bad_grp hc1, if_pos (by simp)], by simp [Cond.thin, Cond.thins, hnl2], by simp [Cond.size, Cond.sizes]⟩
        · exact ⟨_, t2, by rw [bad_grp rfl, if_pos (by simp)], by simp [Cond.thin, Cond.thins], by simp [Cond.size, Cond.sizes]⟩
        · exact ⟨_, t4, by rw [Cond.bad, hb4], by simp [Cond.thin, Cond.thins], by simp [Cond.size, Cond.sizes]⟩
      refine ⟨a37, _, _, y, rfl, rfl, SqL.of ha37, hya, ?_⟩
      refine ⟨line_ge (by simp), fun a38 na38 => ?_⟩
      have ea38 : Same G37 (upd G37 a38 (.tup [.str "contact", .str n])) := Same.new na38
      have ha38 : upd G37 a38 (.tup [.str "contact", .str n]) a38 = some (.tup [.str "contact", .str n]) := upd_same
      have td1 := td1.mono (T := fun _ => False) (Same.imm ea38)
      have zz := zz.trans ea38
      generalize upd G37 a38 (.tup [.str "contact", .str n]) = G38 at ea38 ha38 zz td1 ⊢
      have tc2 : IsT G38 (.ref a38) (.contact n) := .contact ha38
      obtain ⟨ay, xy, ey, _⟩ := td1.ref
      subst ey
      refine ⟨line_ge (by simp), fun a39 na39 => ?_⟩
      have ea39 : Same G38 (upd G38 a39 (.tup [.str "or", .ref a38, .ref ay])) := Same.new na39
      have ha39 : upd G38 a39 (.tup [.str "or", .ref a38, .ref ay]) a39 = some (.tup [.str "or", .ref a38, .ref ay]) := upd_same
      have td1 := td1.mono (T := fun _ => False) (Same.imm ea39)
      have tc2 := tc2.mono (T := fun _ => False) (Same.imm ea39)
      have zz := zz.trans ea39
      generalize upd G38 a39 (.tup [.str "or", .ref a38, .ref ay]) = G39 at ea39 ha39 zz td1 tc2 ⊢
      have tw : IsT G39 (.ref a39) (.grp false [.contact n, d1]) := .grp (s := false) ha39 (.cons tc2 (.cons td1 .nil))
      refine ⟨4, .ref a39, _, rfl, .tup tw (by simp [Cond.thin, Cond.thins, hnl2, hd1]) (by simp [Cond.size, Cond.sizes]; omega), told_bad (e := true) (Cond.bad_kids (by rw [Cond.kids, bads_two, hcb, bd1])) fun W5 sW5 => ⟨scal_ss, ?_⟩⟩
      rw [decide_eq_true (show V.str (kindT true) = V.str "part" from rfl)]
      exact k _ (zz.trans sW5)
theorem ok_words (T : TTop K mg cl xc xo) : FnAt P w K mg base CX0 "_law_words" 30 ["_law_name", "_law_bad", "_law_cell"] spFar := by
  have G__law_told : FnAt P w K mg base CX0 "_law_told" 29 _ (spTold5 K cl) := ok_told5 T.kind
  refine fnAt_ok T.d_words sc__law_words (fun vs H Q E h => ?_) (fun f cdv A outer s H vs Q E hr h => ?_)
  · obtain ⟨n, z, c, rfl, _⟩ := h; rfl
  · obtain ⟨n, z, c, rfl, hn, hz, hl, hc, k⟩ := h
    have hnl := isName_len hn
    refine ⟨_, (pss_cons (ps_set (i := 3) sc__law_words.nd rfl (by first | exact Or.inl rfl | exact Or.inr rfl) (pe_tup (pa_cons pe_str (pa_cons (pv 1) pa_nil))))
        (pss_cons (ps_set (i := 4) sc__law_words.nd rfl (by first | exact Or.inl rfl | exact Or.inr rfl) (pe_tup (pa_cons pe_str (pa_cons (pe_tup (pa_cons pe_str (pa_cons (pv 0) pa_nil))) pa_nil))))
        (pss_cons (ps_set (i := 5) sc__law_words.nd rfl (by first | exact Or.inl rfl | exact Or.inr rfl) (pe_ix ix_list (pe_lst (pa_cons (pe_tup (pa_cons pe_str (pa_cons (pe_tup (pa_cons pe_str (pa_cons (pv 0) pa_nil))) (pa_cons (pv 3) (pa_cons (pv 4) pa_nil))))) (pa_cons (pe_tup (pa_cons pe_str (pa_cons (pe_tup (pa_cons pe_str (pa_cons (pv 3) pa_nil))) (pa_cons (pe_tup (pa_cons pe_str (pa_cons (pv 4) pa_nil))) pa_nil)))) pa_nil))) (pe_op op_mod (pv 2) pe_int) (fun _ _ => rfl)))
        (pss_cons (ps_set (i := 6) sc__law_words.nd rfl (by first | exact Or.inl rfl | exact Or.inr rfl) (pe_ix ix_list (pe_lst (pa_cons (pe_tup (pa_cons pe_str (pa_cons (pe_tup (pa_cons pe_str (pa_cons (pv 4) pa_nil))) (pa_cons (pv 3) pa_nil)))) (pa_cons (pe_tup (pa_cons pe_str (pa_cons (pv 4) (pa_cons (pv 3) pa_nil)))) pa_nil))) (pe_op op_mod (pe_op op_fdiv (pv 2) pe_int) pe_int) (fun _ _ => rfl)))
        (pss_cons (ps_if (PW.pt (pw_or (pt_cmpR op_ne (pe_callF G__law_told hr pass0 (pa_cons pe_int (pa_cons (pv 1) pa_nil))) pe_str (nomark _)) (pw_or (pt_cmpR op_ne (pe_callF G__law_told hr pass0 (pa_cons pe_int (pa_cons (pv 3) pa_nil))) pe_str (nomark _)) (pw_or1 (pt_cmpR (op_neD hr.units) (pe_callF G__law_told hr pass0 (pa_cons pe_int (pa_cons (pv 0) pa_nil))) (pe_tup (pa_cons pe_int (pa_cons pe_int pa_nil))) (nomark _)))))) (pss_one (ps_ret pe_bl)) pss_nil)
        (pss_cons (ps_if (PW.pt (pw_or (pt_cmpR op_ne (pe_callF G__law_told hr pass0 (pa_cons pe_int (pa_cons (pe_tup (pa_cons pe_str (pa_cons (pv 3) pa_nil))) pa_nil))) pe_str (nomark _)) (pw_or1 (pt_cmpR op_ne (pe_callF G__law_told hr pass0 (pa_cons pe_int (pa_cons (pe_op op_catT (pe_op op_catT (pe_tup (pa_cons pe_str pa_nil)) (pe_op op_repT (pe_tup (pa_cons (pe_ix ix_tup (pv 4) pe_int (fun _ _ => rfl)) pa_nil)) pe_int)) (pe_tup (pa_cons (pv 3) pa_nil))) pa_nil))) pe_str (nomark _))))) (pss_one (ps_ret pe_bl)) pss_nil)
        (pss_one (ps_ret (pe_and (pe_cmpR op_eq (pe_callF G__law_told hr pass0 (pa_cons pe_int (pa_cons (pv 5) pa_nil))) pe_str (nomark _)) (pe_one (pe_cmpR op_eq (pe_callF G__law_told hr pass0 (pa_cons pe_int (pa_cons (pv 6) pa_nil))) pe_str (nomark _)))))))))))), ?_⟩
    walk_at "rd"
    have zz : Same H H := Same.refl _
    have hcb : (Cond.contact n).bad = none := by rw [bad_ct, if_pos hn]
    have hzb : (Cond.contact z).bad = some false := by rw [bad_ct, if_neg (by rw [hz]; exact Bool.false_ne_true)]
    have hf : Cond.bads [.contact n] = none := by rw [Cond.bads, hcb]; rfl
    have hfb : (Cond.grp true [.contact n]).bad = some true := by rw [bad_grp hf, if_pos (by simp)]
    have hzl : z.length ≤ 1000000 := by omega
    have hnl2 : n.length ≤ 1000000 := by omega
    refine ⟨line_ge (by simp), fun a1 na1 => ?_⟩
    have ea1 : Same H (upd H a1 (.tup [.str "contact", .str z])) := Same.new na1
    have ha1 : upd H a1 (.tup [.str "contact", .str z]) a1 = some (.tup [.str "contact", .str z]) := upd_same
    have zz := zz.trans ea1
    generalize upd H a1 (.tup [.str "contact", .str z]) = G1 at ea1 ha1 zz ⊢
    have tz : IsT G1 (.ref a1) (.contact z) := .contact ha1
    refine ⟨line_ge (by simp), fun a2 na2 => ?_⟩
    have ea2 : Same G1 (upd G1 a2 (.tup [.str "contact", .str n])) := Same.new na2
    have ha2 : upd G1 a2 (.tup [.str "contact", .str n]) a2 = some (.tup [.str "contact", .str n]) := upd_same
    have tz := tz.mono (T := fun _ => False) (Same.imm ea2)
    have zz := zz.trans ea2
    generalize upd G1 a2 (.tup [.str "contact", .str n]) = G2 at ea2 ha2 zz tz ⊢
    have tc : IsT G2 (.ref a2) (.contact n) := .contact ha2
    refine ⟨line_ge (by simp), fun a3 na3 => ?_⟩
    have ea3 : Same G2 (upd G2 a3 (.tup [.str "and", .ref a2])) := Same.new na3
    have ha3 : upd G2 a3 (.tup [.str "and", .ref a2]) a3 = some (.tup [.str "and", .ref a2]) := upd_same
    have tz := tz.mono (T := fun _ => False) (Same.imm ea3)
    have tc := tc.mono (T := fun _ => False) (Same.imm ea3)
    have zz := zz.trans ea3
    generalize upd G2 a3 (.tup [.str "and", .ref a2]) = G3 at ea3 ha3 zz tz tc ⊢
    have tf : IsT G3 (.ref a3) (.grp true [.contact n]) := .grp (s := true) ha3 (.cons tc .nil)
    have hfw := ha3
    refine ⟨line_ge (by simp), fun a4 na4 => ?_⟩
    have ea4 : Same G3 (upd G3 a4 (.tup [.str "contact", .str n])) := Same.new na4
    have ha4 : upd G3 a4 (.tup [.str "contact", .str n]) a4 = some (.tup [.str "contact", .str n]) := upd_same
    have tz := tz.mono (T := fun _ => False) (Same.imm ea4)
    have tc := tc.mono (T := fun _ => False) (Same.imm ea4)
    have tf := tf.mono (T := fun _ => False) (Same.imm ea4)
    have zz := zz.trans ea4
    generalize upd G3 a4 (.tup [.str "contact", .str n]) = G4 at ea4 ha4 zz tz tc tf ⊢
    have tc2 : IsT G4 (.ref a4) (.contact n) := .contact ha4
    have hfw := ea4 _ _ hfw
    refine ⟨line_ge (by simp), fun a5 na5 => ?_⟩
    have ea5 : Same G4 (upd G4 a5 (.tup [.str "or", .ref a4, .ref a1, .ref a3])) := Same.new na5
    have ha5 : upd G4 a5 (.tup [.str "or", .ref a4, .ref a1, .ref a3]) a5 = some (.tup [.str "or", .ref a4, .ref a1, .ref a3]) := upd_same
    have tz := tz.mono (T := fun _ => False) (Same.imm ea5)
    have tc := tc.mono (T := fun _ => False) (Same.imm ea5)
    have tf := tf.mono (T := fun _ => False) (Same.imm ea5)
    have tc2 := tc2.mono (T := fun _ => False) (Same.imm ea5)
    have zz := zz.trans ea5
    generalize upd G4 a5 (.tup [.str "or", .ref a4, .ref a1, .ref a3]) = G5 at ea5 ha5 zz tz tc tf tc2 ⊢
    have t1 : IsT G5 (.ref a5) (.grp false [.contact n, .contact z, .grp true [.contact n]]) := .grp (s := false) ha5 (.cons tc2 (.cons tz (.cons tf .nil)))
    have hfw := ea5 _ _ hfw
    refine ⟨line_ge (by simp), fun a6 na6 => ?_⟩
    have ea6 : Same G5 (upd G5 a6 (.tup [.str "not", .ref a1])) := Same.new na6
    have ha6 : upd G5 a6 (.tup [.str "not", .ref a1]) a6 = some (.tup [.str "not", .ref a1]) := upd_same
    have tz := tz.mono (T := fun _ => False) (Same.imm ea6)
    have tc := tc.mono (T := fun _ => False) (Same.imm ea6)
    have tf := tf.mono (T := fun _ => False) (Same.imm ea6)
    have tc2 := tc2.mono (T := fun _ => False) (Same.imm ea6)
    have t1 := t1.mono (T := fun _ => False) (Same.imm ea6)
    have zz := zz.trans ea6
    generalize upd G5 a6 (.tup [.str "not", .ref a1]) = G6 at ea6 ha6 zz tz tc tf tc2 t1 ⊢
    have tnz : IsT G6 (.ref a6) (.not (.contact z)) := .not ha6 tz
    have hfw := ea6 _ _ hfw
    refine ⟨line_ge (by simp), fun a7 na7 => ?_⟩
    have ea7 : Same G6 (upd G6 a7 (.tup [.str "not", .ref a3])) := Same.new na7
    have ha7 : upd G6 a7 (.tup [.str "not", .ref a3]) a7 = some (.tup [.str "not", .ref a3]) := upd_same
    have tz := tz.mono (T := fun _ => False) (Same.imm ea7)
    have tc := tc.mono (T := fun _ => False) (Same.imm ea7)
    have tf := tf.mono (T := fun _ => False) (Same.imm ea7)
    have tc2 := tc2.mono (T := fun _ => False) (Same.imm ea7)
    have t1 := t1.mono (T := fun _ => False) (Same.imm ea7)
    have tnz := tnz.mono (T := fun _ => False) (Same.imm ea7)
    have zz := zz.trans ea7
    generalize upd G6 a7 (.tup [.str "not", .ref a3]) = G7 at ea7 ha7 zz tz tc tf tc2 t1 tnz ⊢
    have tnf : IsT G7 (.ref a7) (.not (.grp true [.contact n])) := .not ha7 tf
    have hfw := ea7 _ _ hfw
    refine ⟨line_ge (by simp), fun a8 na8 => ?_⟩
    have ea8 : Same G7 (upd G7 a8 (.tup [.str "and", .ref a6, .ref a7])) := Same.new na8
    have ha8 : upd G7 a8 (.tup [.str "and", .ref a6, .ref a7]) a8 = some (.tup [.str "and", .ref a6, .ref a7]) := upd_same
    have tz := tz.mono (T := fun _ => False) (Same.imm ea8)
    have tc := tc.mono (T := fun _ => False) (Same.imm ea8)
    have tf := tf.mono (T := fun _ => False) (Same.imm ea8)
    have tc2 := tc2.mono (T := fun _ => False) (Same.imm ea8)
    have t1 := t1.mono (T := fun _ => False) (Same.imm ea8)
    have tnz := tnz.mono (T := fun _ => False) (Same.imm ea8)
    have tnf := tnf.mono (T := fun _ => False) (Same.imm ea8)
    have zz := zz.trans ea8
    generalize upd G7 a8 (.tup [.str "and", .ref a6, .ref a7]) = G8 at ea8 ha8 zz tz tc tf tc2 t1 tnz tnf ⊢
    have t2 : IsT G8 (.ref a8) (.grp true [.not (.contact z), .not (.grp true [.contact n])]) := .grp (s := true) ha8 (.cons tnz (.cons tnf .nil))
    have hfw := ea8 _ _ hfw
    refine ⟨line_ge (by simp), fun a9 na9 => ?_⟩
    have ea9 : Same G8 (upd G8 a9 (.lst [.ref a5, .ref a8])) := Same.new na9
    have ha9 : upd G8 a9 (.lst [.ref a5, .ref a8]) a9 = some (.lst [.ref a5, .ref a8]) := upd_same
    have tz := tz.mono (T := fun _ => False) (Same.imm ea9)
    have tc := tc.mono (T := fun _ => False) (Same.imm ea9)
    have tf := tf.mono (T := fun _ => False) (Same.imm ea9)
    have tc2 := tc2.mono (T := fun _ => False) (Same.imm ea9)
    have t1 := t1.mono (T := fun _ => False) (Same.imm ea9)
    have tnz := tnz.mono (T := fun _ => False) (Same.imm ea9)
    have tnf := tnf.mono (T := fun _ => False) (Same.imm ea9)
    have t2 := t2.mono (T := fun _ => False) (Same.imm ea9)
    have zz := zz.trans ea9
    generalize upd G8 a9 (.lst [.ref a5, .ref a8]) = G9 at ea9 ha9 zz tz tc tf tc2 t1 tnz tnf t2 ⊢
    have hfw := ea9 _ _ hfw
    obtain ⟨y, hy, hya⟩ := atI_ex (xs := [V.ref a5, .ref a8]) (Int.emod_nonneg c (show (2 : Int) ≠ 0 by decide)) (Int.emod_lt_of_pos c (show (0 : Int) < 2 by decide))
    obtain ⟨d1, td1, bd1, hd1, zd1⟩ : ∃ d, IsT G9 y d ∧ d.bad = some false ∧ d.thin = true ∧ d.size ≤ 100 := by
      simp only [List.mem_cons, List.not_mem_nil, or_false] at hy
      rcases hy with rfl | rfl
      · exact ⟨_, t1, Cond.bad_kids (by rw [Cond.kids, Cond.bads, hcb]; rw [Cond.bads, hzb]), by simp [Cond.thin, Cond.thins, hzl, hnl2], by simp [Cond.size, Cond.sizes]⟩
      · exact ⟨_, t2, Cond.bad_kids (by rw [Cond.kids, Cond.bads, show (Cond.not (.contact z)).bad = some false from by rw [Cond.bad, hzb]]), by simp [Cond.thin, Cond.thins, hzl, hnl2], by simp [Cond.size, Cond.sizes]⟩
    refine ⟨a9, _, _, y, rfl, rfl, SqL.of ha9, hya, ?_⟩
    refine ⟨line_ge (by simp), fun a10 na10 => ?_⟩
    have ea10 : Same G9 (upd G9 a10 (.tup [.str "not", .ref a3])) := Same.new na10
    have ha10 : upd G9 a10 (.tup [.str "not", .ref a3]) a10 = some (.tup [.str "not", .ref a3]) := upd_same
    have tz := tz.mono (T := fun _ => False) (Same.imm ea10)
    have tc := tc.mono (T := fun _ => False) (Same.imm ea10)
    have tf := tf.mono (T := fun _ => False) (Same.imm ea10)
    have tc2 := tc2.mono (T := fun _ => False) (Same.imm ea10)
    have t1 := t1.mono (T := fun _ => False) (Same.imm ea10)
    have tnz := tnz.mono (T := fun _ => False) (Same.imm ea10)
    have tnf := tnf.mono (T := fun _ => False) (Same.imm ea10)
    have t2 := t2.mono (T := fun _ => False) (Same.imm ea10)
    have td1 := td1.mono (T := fun _ => False) (Same.imm ea10)
    have zz := zz.trans ea10
    generalize upd G9 a10 (.tup [.str "not", .ref a3]) = G10 at ea10 ha10 zz tz tc tf tc2 t1 tnz tnf t2 td1 ⊢
    have tnf2 : IsT G10 (.ref a10) (.not (.grp true [.contact n])) := .not ha10 tf
    have hfw := ea10 _ _ hfw
    refine ⟨line_ge (by simp), fun a11 na11 => ?_⟩
    have ea11 : Same G10 (upd G10 a11 (.tup [.str "or", .ref a10, .ref a1])) := Same.new na11
    have ha11 : upd G10 a11 (.tup [.str "or", .ref a10, .ref a1]) a11 = some (.tup [.str "or", .ref a10, .ref a1]) := upd_same
    have tz := tz.mono (T := fun _ => False) (Same.imm ea11)
    have tc := tc.mono (T := fun _ => False) (Same.imm ea11)
    have tf := tf.mono (T := fun _ => False) (Same.imm ea11)
    have tc2 := tc2.mono (T := fun _ => False) (Same.imm ea11)
    have t1 := t1.mono (T := fun _ => False) (Same.imm ea11)
    have tnz := tnz.mono (T := fun _ => False) (Same.imm ea11)
    have tnf := tnf.mono (T := fun _ => False) (Same.imm ea11)
    have t2 := t2.mono (T := fun _ => False) (Same.imm ea11)
    have td1 := td1.mono (T := fun _ => False) (Same.imm ea11)
    have tnf2 := tnf2.mono (T := fun _ => False) (Same.imm ea11)
    have zz := zz.trans ea11
    generalize upd G10 a11 (.tup [.str "or", .ref a10, .ref a1]) = G11 at ea11 ha11 zz tz tc tf tc2 t1 tnz tnf t2 td1 tnf2 ⊢
    have t3 : IsT G11 (.ref a11) (.grp false [.not (.grp true [.contact n]), .contact z]) := .grp (s := false) ha11 (.cons tnf2 (.cons tz .nil))
    have hfw := ea11 _ _ hfw
    refine ⟨line_ge (by simp), fun a12 na12 => ?_⟩
    have ea12 : Same G11 (upd G11 a12 (.tup [.str "and", .ref a3, .ref a1])) := Same.new na12
    have ha12 : upd G11 a12 (.tup [.str "and", .ref a3, .ref a1]) a12 = some (.tup [.str "and", .ref a3, .ref a1]) := upd_same
    have tz := tz.mono (T := fun _ => False) (Same.imm ea12)
    have tc := tc.mono (T := fun _ => False) (Same.imm ea12)
    have tf := tf.mono (T := fun _ => False) (Same.imm ea12)
    have tc2 := tc2.mono (T := fun _ => False) (Same.imm ea12)
    have t1 := t1.mono (T := fun _ => False) (Same.imm ea12)
    have tnz := tnz.mono (T := fun _ => False) (Same.imm ea12)
    have tnf := tnf.mono (T := fun _ => False) (Same.imm ea12)
    have t2 := t2.mono (T := fun _ => False) (Same.imm ea12)
    have td1 := td1.mono (T := fun _ => False) (Same.imm ea12)
    have tnf2 := tnf2.mono (T := fun _ => False) (Same.imm ea12)
    have t3 := t3.mono (T := fun _ => False) (Same.imm ea12)
    have zz := zz.trans ea12
    generalize upd G11 a12 (.tup [.str "and", .ref a3, .ref a1]) = G12 at ea12 ha12 zz tz tc tf tc2 t1 tnz tnf t2 td1 tnf2 t3 ⊢
    have t4 : IsT G12 (.ref a12) (.grp true [.grp true [.contact n], .contact z]) := .grp (s := true) ha12 (.cons tf (.cons tz .nil))
    have hfw := ea12 _ _ hfw
    refine ⟨line_ge (by simp), fun a13 na13 => ?_⟩
    have ea13 : Same G12 (upd G12 a13 (.lst [.ref a11, .ref a12])) := Same.new na13
    have ha13 : upd G12 a13 (.lst [.ref a11, .ref a12]) a13 = some (.lst [.ref a11, .ref a12]) := upd_same
    have tz := tz.mono (T := fun _ => False) (Same.imm ea13)
    have tc := tc.mono (T := fun _ => False) (Same.imm ea13)
    have tf := tf.mono (T := fun _ => False) (Same.imm ea13)
    have tc2 := tc2.mono (T := fun _ => False) (Same.imm ea13)
    have t1 := t1.mono (T := fun _ => False) (Same.imm ea13)
    have tnz := tnz.mono (T := fun _ => False) (Same.imm ea13)
    have tnf := tnf.mono (T := fun _ => False) (Same.imm ea13)
    have t2 := t2.mono (T := fun _ => False) (Same.imm ea13)
    have td1 := td1.mono (T := fun _ => False) (Same.imm ea13)
    have tnf2 := tnf2.mono (T := fun _ => False) (Same.imm ea13)
    have t3 := t3.mono (T := fun _ => False) (Same.imm ea13)
    have t4 := t4.mono (T := fun _ => False) (Same.imm ea13)
    have zz := zz.trans ea13
    generalize upd G12 a13 (.lst [.ref a11, .ref a12]) = G13 at ea13 ha13 zz tz tc tf tc2 t1 tnz tnf t2 td1 tnf2 t3 t4 ⊢
    have hfw := ea13 _ _ hfw
    obtain ⟨y2, hy2, hya2⟩ := atI_ex (xs := [V.ref a11, .ref a12]) (Int.emod_nonneg (c / 2) (show (2 : Int) ≠ 0 by decide)) (Int.emod_lt_of_pos (c / 2) (show (0 : Int) < 2 by decide))
    obtain ⟨d2, td2, bd2, hd2, zd2⟩ : ∃ d, IsT G13 y2 d ∧ d.bad = some true ∧ d.thin = true ∧ d.size ≤ 100 := by
      simp only [List.mem_cons, List.not_mem_nil, or_false] at hy2
      rcases hy2 with rfl | rfl
      · exact ⟨_, t3, Cond.bad_kids (by rw [Cond.kids, Cond.bads, show (Cond.not (.grp true [.contact n])).bad = some true from by rw [Cond.bad, hfb]]), by simp [Cond.thin, Cond.thins, hzl, hnl2], by simp [Cond.size, Cond.sizes]⟩
      · exact ⟨_, t4, Cond.bad_kids (by rw [Cond.kids, Cond.bads, hfb]), by simp [Cond.thin, Cond.thins, hzl, hnl2], by simp [Cond.size, Cond.sizes]⟩
    refine ⟨a13, _, _, y2, rfl, rfl, SqL.of ha13, hya2, ?_⟩
    refine ⟨0, .str z, _, rfl, .ct hzl, told_bad (e := false) hzb fun W1 sW1 => ⟨scal_ss, ?_⟩⟩
    rw [decide_eq_true (show V.str (kindT false) = V.str "name" from rfl)]
    have tz := tz.mono (T := fun _ => False) (Same.imm sW1)
    have tf := tf.mono (T := fun _ => False) (Same.imm sW1)
    have td1 := td1.mono (T := fun _ => False) (Same.imm sW1)
    have td2 := td2.mono (T := fun _ => False) (Same.imm sW1)
    have tc := tc.mono (T := fun _ => False) (Same.imm sW1)
    have zz := zz.trans sW1
    have hfw := sW1 _ _ hfw
    refine iteF ⟨4, .ref a1, _, rfl, .tup tz (by rw [Cond.thin, decide_eq_true hzl]) (by simp [Cond.size]), told_bad (e := false) hzb fun W2 sW2 => ⟨scal_ss, ?_⟩⟩
    rw [decide_eq_true (show V.str (kindT false) = V.str "name" from rfl)]
    have tz := tz.mono (T := fun _ => False) (Same.imm sW2)
    have tf := tf.mono (T := fun _ => False) (Same.imm sW2)
    have td1 := td1.mono (T := fun _ => False) (Same.imm sW2)
    have td2 := td2.mono (T := fun _ => False) (Same.imm sW2)
    have tc := tc.mono (T := fun _ => False) (Same.imm sW2)
    have zz := zz.trans sW2
    have hfw := sW2 _ _ hfw
    refine iteF ⟨0, .str n, _, rfl, .ct hnl2, told_good hcb fun W3 q3 sW3 hq3 => ?_⟩
    rw [show (Cond.contact n).size = 1 by simp [Cond.size], show (Cond.contact n).depth = 1 by simp [Cond.depth]] at hq3
    have tz := tz.mono (T := fun _ => False) (Same.imm sW3)
    have tf := tf.mono (T := fun _ => False) (Same.imm sW3)
    have td1 := td1.mono (T := fun _ => False) (Same.imm sW3)
    have td2 := td2.mono (T := fun _ => False) (Same.imm sW3)
    have tc := tc.mono (T := fun _ => False) (Same.imm sW3)
    have zz := zz.trans sW3
    have hfw := sW3 _ _ hfw
    refine ⟨line_ge (by simp), fun a21 na21 => ?_⟩
    have ea21 : Same W3 (upd W3 a21 (.tup [.int 1, .int 1])) := Same.new na21
    have ha21 : upd W3 a21 (.tup [.int 1, .int 1]) a21 = some (.tup [.int 1, .int 1]) := upd_same
    have tz := tz.mono (T := fun _ => False) (Same.imm ea21)
    have tf := tf.mono (T := fun _ => False) (Same.imm ea21)
    have td1 := td1.mono (T := fun _ => False) (Same.imm ea21)
    have td2 := td2.mono (T := fun _ => False) (Same.imm ea21)
    have tc := tc.mono (T := fun _ => False) (Same.imm ea21)
    have zz := zz.trans ea21
    generalize upd W3 a21 (.tup [.int 1, .int 1]) = G21 at ea21 ha21 zz tz tf td1 td2 tc ⊢
    have hfw := ea21 _ _ hfw
    refine pair_ne (a := 1) (b := 1) (ea21 _ _ hq3) ha21 ⟨false, rfl, iteF ?_⟩
    refine ⟨line_ge (by simp), fun a22 na22 => ?_⟩
    have ea22 : Same G21 (upd G21 a22 (.tup [.str "and", .ref a1])) := Same.new na22
    have ha22 : upd G21 a22 (.tup [.str "and", .ref a1]) a22 = some (.tup [.str "and", .ref a1]) := upd_same
    have tz := tz.mono (T := fun _ => False) (Same.imm ea22)
    have tf := tf.mono (T := fun _ => False) (Same.imm ea22)
    have td1 := td1.mono (T := fun _ => False) (Same.imm ea22)
    have td2 := td2.mono (T := fun _ => False) (Same.imm ea22)
    have tc := tc.mono (T := fun _ => False) (Same.imm ea22)
    have zz := zz.trans ea22
    generalize upd G21 a22 (.tup [.str "and", .ref a1]) = G22 at ea22 ha22 zz tz tf td1 td2 tc ⊢
    have taz : IsT G22 (.ref a22) (.grp true [.contact z]) := .grp (s := true) ha22 (.cons tz .nil)
    have hfw := ea22 _ _ hfw
    refine ⟨4, .ref a22, _, rfl, .tup taz (by simp [Cond.thin, Cond.thins, hzl]) (by simp [Cond.size, Cond.sizes]), told_bad (e := false) (Cond.bad_kids (by rw [Cond.kids, Cond.bads, hzb])) fun W4 sW4 => ⟨scal_ss, ?_⟩⟩
    rw [decide_eq_true (show V.str (kindT false) = V.str "name" from rfl)]
    have tz := tz.mono (T := fun _ => False) (Same.imm sW4)
    have tf := tf.mono (T := fun _ => False) (Same.imm sW4)
    have td1 := td1.mono (T := fun _ => False) (Same.imm sW4)
    have td2 := td2.mono (T := fun _ => False) (Same.imm sW4)
    have tc := tc.mono (T := fun _ => False) (Same.imm sW4)
    have zz := zz.trans sW4
    have hfw := sW4 _ _ hfw
    refine iteF ?_
    refine ⟨line_ge (by simp), fun a23 na23 => ?_⟩
    have ea23 : Same W4 (upd W4 a23 (.tup [.str "or"])) := Same.new na23
    have ha23 : upd W4 a23 (.tup [.str "or"]) a23 = some (.tup [.str "or"]) := upd_same
    have tz := tz.mono (T := fun _ => False) (Same.imm ea23)
    have tf := tf.mono (T := fun _ => False) (Same.imm ea23)
    have td1 := td1.mono (T := fun _ => False) (Same.imm ea23)
    have td2 := td2.mono (T := fun _ => False) (Same.imm ea23)
    have tc := tc.mono (T := fun _ => False) (Same.imm ea23)
    have zz := zz.trans ea23
    generalize upd W4 a23 (.tup [.str "or"]) = G23 at ea23 ha23 zz tz tf td1 td2 tc ⊢
    have hfw := ea23 _ _ hfw
    refine ⟨a3, _, 1, .ref a2, rfl, rfl, SqT.of hfw, rfl, ?_⟩
    refine ⟨line_ge (by simp), fun a24 na24 => ?_⟩
    have ea24 : Same G23 (upd G23 a24 (.tup [.ref a2])) := Same.new na24
    have ha24 : upd G23 a24 (.tup [.ref a2]) a24 = some (.tup [.ref a2]) := upd_same
    have tz := tz.mono (T := fun _ => False) (Same.imm ea24)
    have tf := tf.mono (T := fun _ => False) (Same.imm ea24)
    have td1 := td1.mono (T := fun _ => False) (Same.imm ea24)
    have td2 := td2.mono (T := fun _ => False) (Same.imm ea24)
    have tc := tc.mono (T := fun _ => False) (Same.imm ea24)
    have zz := zz.trans ea24
    generalize upd G23 a24 (.tup [.ref a2]) = G24 at ea24 ha24 zz tz tf td1 td2 tc ⊢
    have hor := ea24 _ _ ha23
    refine ⟨a24, 60, [.ref a2], rfl, rfl, SqT.of ha24, by simp, by decide, by decide, by simp, fun aR naR => ?_⟩
    have eR : (List.replicate (60 : Int).toNat [V.ref a2]).flatten = List.replicate 60 (V.ref a2) := rfl
    rw [eR]
    obtain ⟨R, hR⟩ : ∃ R, R = List.replicate 60 (V.ref a2) := ⟨_, rfl⟩
    have lR : R.length = 60 := by rw [hR, List.length_replicate]
    rw [← hR]
    have neR : R ≠ [] := by intro e; rw [e] at lR; simp at lR
    have eaR : Same G24 (upd G24 aR (.tup R)) := Same.new naR
    have haR : upd G24 aR (.tup R) aR = some (.tup R) := upd_same
    have tz := tz.mono (T := fun _ => False) (Same.imm eaR)
    have tf := tf.mono (T := fun _ => False) (Same.imm eaR)
    have td1 := td1.mono (T := fun _ => False) (Same.imm eaR)
    have td2 := td2.mono (T := fun _ => False) (Same.imm eaR)
    have tc := tc.mono (T := fun _ => False) (Same.imm eaR)
    have zz := zz.trans eaR
    have hor := eaR _ _ hor
    generalize upd G24 aR (.tup R) = GR at eaR haR zz hor tz tf td1 td2 tc ⊢
    refine ⟨a23, aR, [.str "or"], R, rfl, rfl, SqT.of hor, SqT.of haR, by simp, line_ge (by simp; omega), fun e => absurd e neR, fun _ aC naC => ?_⟩
    have eaC : Same GR (upd GR aC (.tup ([.str "or"] ++ R))) := Same.new naC
    have haC : upd GR aC (.tup ([.str "or"] ++ R)) aC = some (.tup ([.str "or"] ++ R)) := upd_same
    have tz := tz.mono (T := fun _ => False) (Same.imm eaC)
    have tf := tf.mono (T := fun _ => False) (Same.imm eaC)
    have td1 := td1.mono (T := fun _ => False) (Same.imm eaC)
    have td2 := td2.mono (T := fun _ => False) (Same.imm eaC)
    have tc := tc.mono (T := fun _ => False) (Same.imm eaC)
    have zz := zz.trans eaC
    generalize upd GR aC (.tup ([.str "or"] ++ R)) = GC at eaC haC zz tz tf td1 td2 tc ⊢
    refine ⟨line_ge (by simp), fun a25 na25 => ?_⟩
    have ea25 : Same GC (upd GC a25 (.tup [.ref a1])) := Same.new na25
    have ha25 : upd GC a25 (.tup [.ref a1]) a25 = some (.tup [.ref a1]) := upd_same
    have tz := tz.mono (T := fun _ => False) (Same.imm ea25)
    have tf := tf.mono (T := fun _ => False) (Same.imm ea25)
    have td1 := td1.mono (T := fun _ => False) (Same.imm ea25)
    have td2 := td2.mono (T := fun _ => False) (Same.imm ea25)
    have tc := tc.mono (T := fun _ => False) (Same.imm ea25)
    have zz := zz.trans ea25
    generalize upd GC a25 (.tup [.ref a1]) = G25 at ea25 ha25 zz tz tf td1 td2 tc ⊢
    have haC := ea25 _ _ haC
    refine ⟨aC, a25, [.str "or"] ++ R, [.ref a1], rfl, rfl, SqT.of haC, SqT.of ha25, by simp, line_ge (by simp; omega), fun e => (by simp at e), fun _ aD naD => ?_⟩
    have eaD : Same G25 (upd G25 aD (.tup ([.str "or"] ++ R ++ [.ref a1]))) := Same.new naD
    have haD : upd G25 aD (.tup ([.str "or"] ++ R ++ [.ref a1])) aD = some (.tup ([.str "or"] ++ R ++ [.ref a1])) := upd_same
    have tz := tz.mono (T := fun _ => False) (Same.imm eaD)
    have tf := tf.mono (T := fun _ => False) (Same.imm eaD)
    have td1 := td1.mono (T := fun _ => False) (Same.imm eaD)
    have td2 := td2.mono (T := fun _ => False) (Same.imm eaD)
    have tc := tc.mono (T := fun _ => False) (Same.imm eaD)
    have zz := zz.trans eaD
    generalize upd G25 aD (.tup ([.str "or"] ++ R ++ [.ref a1])) = GD at eaD haD zz tz tf td1 td2 tc ⊢
    have tR : ∀ q : Nat, IsTs GD (List.replicate q (V.ref a2)) (List.replicate q (Cond.contact n)) := by
      intro q
      induction q with
      | zero => exact .nil
      | succ q ih => exact .cons tc ih
    have fR : ∀ q : Nat, Cond.bads (List.replicate q (Cond.contact n)) = none ∧ Cond.sizes (List.replicate q (Cond.contact n)) = q ∧ Cond.thins (List.replicate q (Cond.contact n)) = true := by
      intro q
      induction q with
      | zero => exact ⟨rfl, rfl, rfl⟩
      | succ q ih => exact ⟨by rw [List.replicate_succ, Cond.bads, hcb]; exact ih.1, by rw [List.replicate_succ, Cond.sizes, ih.2.1, Cond.size]; omega, by rw [List.replicate_succ, Cond.thins, ih.2.2, Cond.thin, decide_eq_true hnl2]; rfl⟩
    have tD : IsT GD (.ref aD) (.grp false (List.replicate 60 (.contact n) ++ [.contact z])) := by
      have haD' : GD aD = some (.tup (.str (word false) :: (R ++ [V.ref a1]))) := haD
      refine .grp (s := false) haD' ?_
      rw [hR]
      exact (tR 60).snoc tz
    have thA : ∀ a b : List Cond, Cond.thins (a ++ b) = (Cond.thins a && Cond.thins b) := by
      intro a b
      induction a with
      | nil => rfl
      | cons x r ih => rw [List.cons_append, Cond.thins, Cond.thins, ih, Bool.and_assoc]
    have szD : Cond.sizes (List.replicate 60 (Cond.contact n) ++ [.contact z]) = 61 := by rw [sizes_app, (fR 60).2.1]; simp [Cond.sizes, Cond.size]
    refine ⟨4, .ref aD, _, rfl, .tup tD (by rw [Cond.thin, szD, thA, (fR 60).2.2]; simp [Cond.thins, Cond.thin, hzl]) (by rw [Cond.size, szD]; omega), told_bad (e := false) (Cond.bad_kids (by rw [Cond.kids, Cond.bads_app (fR 60).1, Cond.bads, hzb])) fun W5 sW5 => ⟨scal_ss, ?_⟩⟩
    rw [decide_eq_true (show V.str (kindT false) = V.str "name" from rfl)]
    have tz := tz.mono (T := fun _ => False) (Same.imm sW5)
    have tf := tf.mono (T := fun _ => False) (Same.imm sW5)
    have td1 := td1.mono (T := fun _ => False) (Same.imm sW5)
    have td2 := td2.mono (T := fun _ => False) (Same.imm sW5)
    have tc := tc.mono (T := fun _ => False) (Same.imm sW5)
    have zz := zz.trans sW5
    refine iteF ⟨4, y, d1, rfl, .tup td1 hd1 (by omega), told_bad (e := false) bd1 fun W6 sW6 => ⟨scal_ss, ?_⟩⟩
    rw [decide_eq_true (show V.str (kindT false) = V.str "name" from rfl)]
    have tz := tz.mono (T := fun _ => False) (Same.imm sW6)
    have tf := tf.mono (T := fun _ => False) (Same.imm sW6)
    have td1 := td1.mono (T := fun _ => False) (Same.imm sW6)
    have td2 := td2.mono (T := fun _ => False) (Same.imm sW6)
    have tc := tc.mono (T := fun _ => False) (Same.imm sW6)
    have zz := zz.trans sW6
    refine iteT ⟨4, y2, d2, rfl, .tup td2 hd2 (by omega), told_bad (e := true) bd2 fun W7 sW7 => ⟨scal_ss, ?_⟩⟩
    rw [decide_eq_true (show V.str (kindT true) = V.str "part" from rfl)]
    exact k _ (zz.trans sW7)
end

/-! ## the law -/
abbrev s_law : Stmt := top 48
theorem sc_law : FnScope ["_law_script", "_law_name", "_law_bad", "_law_cell"] ["_law_script"] (defScope s_law) := ⟨rfl, rfl, rfl, by decide +kernel, rfl, by decide +kernel, by decide +kernel⟩
structure Txt (K : PySem.W.Frag) (mg : Str → Option Value) (cl : Cl) (xc : Xc) (xo : Xo) : Prop where
  top : TTop K mg cl xc xo
  n5 : TNames5 K mg
  law : LawAt K mg s_law "_law_script"
section
variable {P : Program} {w : World} {K : PySem.W.Frag} {mg : Str → Option Value} {base : Heap} {cl : Cl} {xc : Xc} {xo : Xo}
theorem ok_law (T : Txt K mg cl xc xo) {f : Addr} {fd : FuncData} (F : Fun K "law" "law" s_law f fd) : FnOk P w K mg base CX0 50 f fd ["_law_script"] (spLaw K) := by
  have G__law_cell_at : FnAt P w K mg base CX0 "_law_cell_at" 1 _ (spCellAt K) := ok_cell_at T.n5.cells
  have G__law_mixed : FnAt P w K mg base CX0 "_law_mixed" 1 _ spMixed := ok_mixed T.n5.cells
  have G__law_names : FnAt P w K mg base CX0 "_law_names" 3 _ spNames := ok_names T.n5
  have G__law_bad_word : FnAt P w K mg base CX0 "_law_bad_word" 1 _ spBadWord := ok_bad_word T.top.draw
  have G__law_words : FnAt P w K mg base CX0 "_law_words" 30 _ spFar := ok_words T.top
  have G__law_few : FnAt P w K mg base CX0 "_law_few" 30 _ spBounds := ok_few T.top
  have G__law_bounds : FnAt P w K mg base CX0 "_law_bounds" 30 _ spBounds := ok_bounds T.top
  have G__law_far : FnAt P w K mg base CX0 "_law_far" 30 _ spFar := ok_far T.top
  have G__law_told : FnAt P w K mg base CX0 "_law_told" 29 _ (spTold5 K cl) := ok_told5 T.top.kind
  refine F.ok sc_law (fun vs H Q E h => ?_) (fun cdv A outer s H vs Q E hr h => ?_)
  · obtain ⟨a, ns, rfl, _⟩ := h; rfl
  · obtain ⟨a, script, rfl, hS, hlen, k⟩ := h
    refine ⟨_, (pss_cons (ps_set (i := 1) sc_law.nd rfl (by first | exact Or.inl rfl | exact Or.inr rfl) (pe_ix ix_list (pe_callF G__law_names hr pass0 (pa_cons (pe_callF G__law_cell_at hr pass0 (pa_cons (pv 0) (pa_cons pe_int pa_nil))) pa_nil)) (pe_op op_mod (pe_callF G__law_cell_at hr pass0 (pa_cons (pv 0) (pa_cons pe_int pa_nil))) pe_int) (fun _ _ => rfl)))
        (pss_cons (ps_set (i := 2) sc_law.nd rfl (by first | exact Or.inl rfl | exact Or.inr rfl) (pe_callF G__law_bad_word hr pass0 (pa_cons (pe_callF G__law_mixed hr pass0 (pa_cons (pe_callF G__law_cell_at hr pass0 (pa_cons (pv 0) (pa_cons pe_int pa_nil))) (pa_cons pe_int pa_nil))) pa_nil)))
        (pss_cons (ps_set (i := 3) sc_law.nd rfl (by first | exact Or.inl rfl | exact Or.inr rfl) (pe_callF G__law_mixed hr pass0 (pa_cons (pe_callF G__law_cell_at hr pass0 (pa_cons (pv 0) (pa_cons pe_int pa_nil))) (pa_cons pe_int pa_nil))))
        (pss_cons (ps_if (PW.pt (pw_or (pt_not (pt_val (pe_callF G__law_words hr pass0 (pa_cons (pv 1) (pa_cons (pv 2) (pa_cons (pv 3) pa_nil)))))) (pw_or1 (pt_not (pt_val (pe_callF G__law_few hr pass0 (pa_cons (pv 1) (pa_cons (pv 3) pa_nil)))))))) (pss_one (ps_ret pe_bl)) pss_nil)
        (pss_one (ps_ret (pe_and (pe_callF G__law_bounds hr pass0 (pa_cons (pv 1) (pa_cons (pv 3) pa_nil))) (pe_and (pe_callF G__law_far hr pass0 (pa_cons (pv 1) (pa_cons (pv 2) (pa_cons (pv 3) pa_nil)))) (pe_one (pe_cmpR (op_eqD hr.units) (pe_callF G__law_told hr pass0 (pa_cons pe_int (pa_cons (pv 1) pa_nil))) (pe_tup (pa_cons pe_int (pa_cons pe_int pa_nil))) (nomark _))))))))))), ?_⟩
    walk_at "rd"
    refine ⟨a, script, 0, rfl, hS, by decide, _, rfl, fun H1 pn ns s1 fn hN => ?_⟩
    obtain ⟨y, hy, hya⟩ := atI_ex (xs := ns.map V.str) (Int.emod_nonneg (cellAt script 1) (show (5 : Int) ≠ 0 by decide)) (by rw [List.length_map, hN.five]; exact Int.emod_lt_of_pos _ (by decide))
    obtain ⟨n, hn, rfl⟩ := List.mem_map.mp hy
    have hok := hN.ok n hn
    have hnl := isName_len hok
    refine ⟨a, script, 1, rfl, s1.seq hS, by decide, _, rfl, pn, _, _, .str n, rfl, rfl, SqL.of hN.at_, hya, ?_⟩
    refine ⟨a, script, 2, rfl, s1.seq hS, by decide, _, _, rfl, _, rfl, mixed_nn _ _, fun H2 z s2 hz hzl => ?_⟩
    refine ⟨a, script, 3, rfl, (s1.trans s2).seq hS, by decide, _, _, rfl, ?_⟩
    have hc := mixed_nn (cellAt script 3) 2
    generalize mixed (cellAt script 3) 2 = c at hc
    refine ⟨n, z, c, rfl, hok, hz, hzl, hc, fun H3 s3 => ⟨true, rfl, iteF ⟨n, c, rfl, hok, hc, fun H4 s4 => ⟨true, rfl, iteF ⟨n, c, rfl, hok, hc, fun H5 s5 => ⟨true, rfl, iteT ⟨n, z, c, rfl, hok, hz, hzl, hc, fun H6 s6 => ⟨true, rfl, iteT ?_⟩⟩⟩⟩⟩⟩⟩⟩
    refine ⟨0, .str n, _, rfl, .ct (by omega), told_good (by rw [bad_ct, if_pos hok]) fun H7 p s7 hp => ⟨line_ge (by simp), fun q nq => ?_⟩⟩
    rw [show (Cond.contact n).size = 1 by simp [Cond.size], show (Cond.contact n).depth = 1 by simp [Cond.depth]] at hp
    exact pair_eq (a := 1) (b := 1) (Same.new nq _ _ hp) upd_same (k _)
end
theorem fin {P : Program} {w : World} {K : PySem.W.Frag} {mg : Str → Option Value} {h : Heap} {fa : Addr} {cl : Cl} {xc : Xc} {xo : Xo} (X : K.In h) (G : h.Ns mainGlobals mg) (hfa : mg "law" = some (.ref fa)) (T : Txt K mg cl xc xo) :
    ∃ fd : FuncData, (∀ (s : Shared) (u : Value), BindsTo s fd ⟨[u], []⟩ [("_law_script", u)]) ∧ ∀ base : Heap, K.In base → base.Ns mainGlobals mg → FnOk P w K mg base CX0 50 fa fd ["_law_script"] (spLaw K) :=
  law_end T.law hfa fun base f fd F => ok_law T F
theorem fin' {P : Program} {w : World} {K : PySem.W.Frag} {mg : Str → Option Value} {h : Heap} {fa fx ct tn sr br xe xn xp xf1 xf2 xf3 xf4 xf5 xf6 xf7 xf8 : Addr} (X : K.In h) (G : h.Ns mainGlobals mg) (hfa : mg "law" = some (.ref fa))
    (a1 : PySem.W.nsIn K mainGlobals "Fixed" = some (some (.ref fx))) (a2 : PySem.W.nsIn K mainGlobals "Contact" = some (some (.ref ct))) (a3 : PySem.W.nsIn K mainGlobals "Turned" = some (some (.ref tn))) (a4 : PySem.W.nsIn K mainGlobals "Series" = some (some (.ref sr))) (a5 : PySem.W.nsIn K mainGlobals "Branch" = some (some (.ref br))) (a6 : PySem.W.nsIn K mainGlobals "LadderError" = some (some (.ref xe))) (a7 : PySem.W.nsIn K mainGlobals "NoName" = some (some (.ref xn))) (a8 : PySem.W.nsIn K mainGlobals "NoPart" = some (some (.ref xp))) (a9 : PySem.W.nsIn K mainGlobals "NoEnd" = some (some (.ref xf1))) (a10 : PySem.W.nsIn K mainGlobals "NoLadder" = some (some (.ref xf2))) (a11 : PySem.W.nsIn K mainGlobals "NoMatch" = some (some (.ref xf3))) (a12 : PySem.W.nsIn K mainGlobals "NoRow" = some (some (.ref xf4))) (a13 : PySem.W.nsIn K mainGlobals "NoSheet" = some (some (.ref xf5))) (a14 : PySem.W.nsIn K mainGlobals "NoState" = some (some (.ref xf6))) (a15 : PySem.W.nsIn K mainGlobals "NoText" = some (some (.ref xf7))) (a16 : PySem.W.nsIn K mainGlobals "TooMany" = some (some (.ref xf8))) (T : Txt K mg ⟨fx, ct, tn, sr, br⟩ ⟨xe, xn, xp⟩ ⟨xf1, xf2, xf3, xf4, xf5, xf6, xf7, xf8⟩) :
    ∃ fd : FuncData, (∀ (s : Shared) (u : Value), BindsTo s fd ⟨[u], []⟩ [("_law_script", u)]) ∧ ∀ base : Heap, K.In base → base.Ns mainGlobals mg → FnOk P w K mg base CX0 50 fa fd ["_law_script"] (spLaw K) :=
  fin X G hfa T
end My
end
section
open PySem L2 Ru
namespace My
theorem split_TNames {K : PySem.W.Frag} {mg : Str → Option Value} {cl : Cl} {xc : Xc} {xo : Xo} (p : TNames K mg) (f : TNames K mg → Txt K mg cl xc xo) : Txt K mg cl xc xo := f p
theorem split_TParts {K : PySem.W.Frag} {mg : Str → Option Value} {cl : Cl} {xc : Xc} {xo : Xo} (p : TParts K mg cl) (f : TParts K mg cl → Txt K mg cl xc xo) : Txt K mg cl xc xo := f p
theorem split_TMake {K : PySem.W.Frag} {mg : Str → Option Value} {cl : Cl} {xc : Xc} {xo : Xo} (p : TMake K mg cl) (f : TMake K mg cl → Txt K mg cl xc xo) : Txt K mg cl xc xo := f p
theorem split_TPartOf {K : PySem.W.Frag} {mg : Str → Option Value} {cl : Cl} {xc : Xc} {xo : Xo} (p : TPartOf K mg cl) (f : TPartOf K mg cl → Txt K mg cl xc xo) : Txt K mg cl xc xo := f p
theorem split_TExc {K : PySem.W.Frag} {mg : Str → Option Value} {cl : Cl} {xc : Xc} {xo : Xo} (p : TExc K mg xc) (f : TExc K mg xc → Txt K mg cl xc xo) : Txt K mg cl xc xo := f p
theorem split_TRef {K : PySem.W.Frag} {mg : Str → Option Value} {cl : Cl} {xc : Xc} {xo : Xo} (p : TRef K mg cl xc) (f : TRef K mg cl xc → Txt K mg cl xc xo) : Txt K mg cl xc xo := f p
theorem split_TKind {K : PySem.W.Frag} {mg : Str → Option Value} {cl : Cl} {xc : Xc} {xo : Xo} (p : TKind K mg cl xc xo) (f : TKind K mg cl xc xo → Txt K mg cl xc xo) : Txt K mg cl xc xo := f p
theorem split_TDraw {K : PySem.W.Frag} {mg : Str → Option Value} {cl : Cl} {xc : Xc} {xo : Xo} (p : TDraw K mg) (f : TDraw K mg → Txt K mg cl xc xo) : Txt K mg cl xc xo := f p
theorem split_TTop {K : PySem.W.Frag} {mg : Str → Option Value} {cl : Cl} {xc : Xc} {xo : Xo} (p : TTop K mg cl xc xo) (f : TTop K mg cl xc xo → Txt K mg cl xc xo) : Txt K mg cl xc xo := f p
theorem split_TCells {K : PySem.W.Frag} {mg : Str → Option Value} {cl : Cl} {xc : Xc} {xo : Xo} (p : TCells K mg) (f : TCells K mg → Txt K mg cl xc xo) : Txt K mg cl xc xo := f p
theorem split_TNames5 {K : PySem.W.Frag} {mg : Str → Option Value} {cl : Cl} {xc : Xc} {xo : Xo} (p : TNames5 K mg) (f : TNames5 K mg → Txt K mg cl xc xo) : Txt K mg cl xc xo := f p
end My
end
open PySem PySem.W PyProof.Rows
set_option maxRecDepth 100000 in
set_option maxHeartbeats 0 in
theorem PySem.Challenge.cw_rungworks_k05_what_makes_none_holds : PySem.Challenge.rw_rungworks_k05_what_makes_none.Holds := by
  w_on; o_law; k_head; (case hw => w_witness2)
  k_fill
  refine Ru.law_walk (l := PySem.Challenge.rw_rungworks_k05_what_makes_none) (k := 50) (p := "_law_script") (cx := L2.CX0) ⟨rfl, by decide, by decide⟩ rfl rfl (fun w h Y => PySem.W.kIn_of Y) (fun _ _ _ _ z => z) ?F
  case F =>
    intro w mg fa h KX G hmg
    refine' My.fin' KX G hmg ?a1 ?a2 ?a3 ?a4 ?a5 ?a6 ?a7 ?a8 ?a9 ?a10 ?a11 ?a12 ?a13 ?a14 ?a15 ?a16 ?T
    (case a1 => k_is)
    (case a2 => k_is)
    (case a3 => k_is)
    (case a4 => k_is)
    (case a5 => k_is)
    (case a6 => k_is)
    (case a7 => k_is)
    (case a8 => k_is)
    (case a9 => k_is)
    (case a10 => k_is)
    (case a11 => k_is)
    (case a12 => k_is)
    (case a13 => k_is)
    (case a14 => k_is)
    (case a15 => k_is)
    (case a16 => k_is)
    case T =>
      refine' My.split_TNames ?p_TNames (fun s_TNames => ?t_TNames)
      case p_TNames =>
        refine' ⟨?TNames_d_is_word, ?TNames_d_is_name, ?TNames_g_SIGNS, ?TNames_g_MOST_SIGNS, ?TNames_g_KEPT, ?TNames_z_len⟩
        (case TNames_d_is_word => (refine' Ru.defAt_mk KX G ?a_TNames_d_is_word ?l_TNames_d_is_word ?c_TNames_d_is_word ?k_TNames_d_is_word ?b_TNames_d_is_word; (case a_TNames_d_is_word => k_is); (case l_TNames_d_is_word => k_is); (case c_TNames_d_is_word => k_is); (case k_TNames_d_is_word => k_is); (case b_TNames_d_is_word => exact fun us hl => match us, hl with | [_], _ => rfl)))
        (case TNames_d_is_name => (refine' Ru.defAt_mk KX G ?a_TNames_d_is_name ?l_TNames_d_is_name ?c_TNames_d_is_name ?k_TNames_d_is_name ?b_TNames_d_is_name; (case a_TNames_d_is_name => k_is); (case l_TNames_d_is_name => k_is); (case c_TNames_d_is_name => k_is); (case k_TNames_d_is_name => k_is); (case b_TNames_d_is_name => exact fun us hl => match us, hl with | [_], _ => rfl)))
        (case TNames_g_SIGNS => (refine' Ru.globC_mk KX G ?a_TNames_g_SIGNS ?r_TNames_g_SIGNS; (case a_TNames_g_SIGNS => k_is); (case r_TNames_g_SIGNS => exact ⟨_, rfl⟩)))
        (case TNames_g_MOST_SIGNS => (refine' Ru.globC_mk KX G ?a_TNames_g_MOST_SIGNS ?r_TNames_g_MOST_SIGNS; (case a_TNames_g_MOST_SIGNS => k_is); (case r_TNames_g_MOST_SIGNS => exact ⟨_, rfl⟩)))
        (case TNames_g_KEPT => (refine' Ru.globT_mk KX G ?a_TNames_g_KEPT ?l_TNames_g_KEPT ?s_TNames_g_KEPT ?v_TNames_g_KEPT; (case a_TNames_g_KEPT => k_is); (case l_TNames_g_KEPT => k_is); (case s_TNames_g_KEPT => exact Ru.line_ge (by decide)); (case v_TNames_g_KEPT => exact Ru.vals_of_B (by decide +kernel))))
        (case TNames_z_len => (exact PySem.W.mg_none_of KX G (by k_is)))
      refine' My.split_TParts ?p_TParts (fun s_TParts => ?t_TParts)
      case p_TParts =>
        refine' ⟨?TParts_c_Fixed, ?TParts_c_Contact, ?TParts_c_Turned, ?TParts_c_Series, ?TParts_c_Branch, ?TParts_nd, ?TParts_nv_fx, ?TParts_nn_ct, ?TParts_np_tn, ?TParts_np_sr, ?TParts_np_br, ?TParts_m_inner_fx, ?TParts_m_inner_ct, ?TParts_m_inner_tn, ?TParts_m_inner_sr, ?TParts_m_inner_br, ?TParts_m_size_fx, ?TParts_m_size_ct, ?TParts_m_size_tn, ?TParts_m_size_sr, ?TParts_m_size_br, ?TParts_m_depth_fx, ?TParts_m_depth_ct, ?TParts_m_depth_tn, ?TParts_m_depth_sr, ?TParts_m_depth_br, ?TParts_m_bounded_tn, ?TParts_m_bounded_sr, ?TParts_m_bounded_br, ?TParts_z_sum, ?TParts_z_max, ?TParts_z_tuple, ?TParts_g_MOST_SIZE, ?TParts_g_MOST_DEEP⟩
        (case TParts_c_Fixed => (refine' Ru.clsAt_mk KX G ?a_TParts_c_Fixed ?b_TParts_c_Fixed ?c_TParts_c_Fixed ?d_TParts_c_Fixed ?e_TParts_c_Fixed ?f_TParts_c_Fixed ?g_TParts_c_Fixed ?h_TParts_c_Fixed ?i_TParts_c_Fixed ?j_TParts_c_Fixed ?k_TParts_c_Fixed; (case a_TParts_c_Fixed => k_is); (case b_TParts_c_Fixed => k_is); (case c_TParts_c_Fixed => k_is); (case d_TParts_c_Fixed => k_is); (case e_TParts_c_Fixed => k_is); (case f_TParts_c_Fixed => k_is); (case g_TParts_c_Fixed => k_is); (case h_TParts_c_Fixed => k_is); (case i_TParts_c_Fixed => k_is); (case j_TParts_c_Fixed => k_is); (case k_TParts_c_Fixed => k_is)))
        (case TParts_c_Contact => (refine' Ru.clsAt_mk KX G ?a_TParts_c_Contact ?b_TParts_c_Contact ?c_TParts_c_Contact ?d_TParts_c_Contact ?e_TParts_c_Contact ?f_TParts_c_Contact ?g_TParts_c_Contact ?h_TParts_c_Contact ?i_TParts_c_Contact ?j_TParts_c_Contact ?k_TParts_c_Contact; (case a_TParts_c_Contact => k_is); (case b_TParts_c_Contact => k_is); (case c_TParts_c_Contact => k_is); (case d_TParts_c_Contact => k_is); (case e_TParts_c_Contact => k_is); (case f_TParts_c_Contact => k_is); (case g_TParts_c_Contact => k_is); (case h_TParts_c_Contact => k_is); (case i_TParts_c_Contact => k_is); (case j_TParts_c_Contact => k_is); (case k_TParts_c_Contact => k_is)))
        (case TParts_c_Turned => (refine' Ru.clsAt_mk KX G ?a_TParts_c_Turned ?b_TParts_c_Turned ?c_TParts_c_Turned ?d_TParts_c_Turned ?e_TParts_c_Turned ?f_TParts_c_Turned ?g_TParts_c_Turned ?h_TParts_c_Turned ?i_TParts_c_Turned ?j_TParts_c_Turned ?k_TParts_c_Turned; (case a_TParts_c_Turned => k_is); (case b_TParts_c_Turned => k_is); (case c_TParts_c_Turned => k_is); (case d_TParts_c_Turned => k_is); (case e_TParts_c_Turned => k_is); (case f_TParts_c_Turned => k_is); (case g_TParts_c_Turned => k_is); (case h_TParts_c_Turned => k_is); (case i_TParts_c_Turned => k_is); (case j_TParts_c_Turned => k_is); (case k_TParts_c_Turned => k_is)))
        (case TParts_c_Series => (refine' Ru.clsAt_mk KX G ?a_TParts_c_Series ?b_TParts_c_Series ?c_TParts_c_Series ?d_TParts_c_Series ?e_TParts_c_Series ?f_TParts_c_Series ?g_TParts_c_Series ?h_TParts_c_Series ?i_TParts_c_Series ?j_TParts_c_Series ?k_TParts_c_Series; (case a_TParts_c_Series => k_is); (case b_TParts_c_Series => k_is); (case c_TParts_c_Series => k_is); (case d_TParts_c_Series => k_is); (case e_TParts_c_Series => k_is); (case f_TParts_c_Series => k_is); (case g_TParts_c_Series => k_is); (case h_TParts_c_Series => k_is); (case i_TParts_c_Series => k_is); (case j_TParts_c_Series => k_is); (case k_TParts_c_Series => k_is)))
        (case TParts_c_Branch => (refine' Ru.clsAt_mk KX G ?a_TParts_c_Branch ?b_TParts_c_Branch ?c_TParts_c_Branch ?d_TParts_c_Branch ?e_TParts_c_Branch ?f_TParts_c_Branch ?g_TParts_c_Branch ?h_TParts_c_Branch ?i_TParts_c_Branch ?j_TParts_c_Branch ?k_TParts_c_Branch; (case a_TParts_c_Branch => k_is); (case b_TParts_c_Branch => k_is); (case c_TParts_c_Branch => k_is); (case d_TParts_c_Branch => k_is); (case e_TParts_c_Branch => k_is); (case f_TParts_c_Branch => k_is); (case g_TParts_c_Branch => k_is); (case h_TParts_c_Branch => k_is); (case i_TParts_c_Branch => k_is); (case j_TParts_c_Branch => k_is); (case k_TParts_c_Branch => k_is)))
        (case TParts_nd => decide)
        (case TParts_nv_fx => (unfold L2.NoAttr; k_is))
        (case TParts_nn_ct => (unfold L2.NoAttr; k_is))
        (case TParts_np_tn => (unfold L2.NoAttr; k_is))
        (case TParts_np_sr => (unfold L2.NoAttr; k_is))
        (case TParts_np_br => (unfold L2.NoAttr; k_is))
        (case TParts_m_inner_fx => (refine' Ru.methAt_mk ?a_TParts_m_inner_fx ?i_TParts_m_inner_fx ?l_TParts_m_inner_fx ?c_TParts_m_inner_fx ?k_TParts_m_inner_fx ?b_TParts_m_inner_fx; (case a_TParts_m_inner_fx => k_is); (case i_TParts_m_inner_fx => k_is); (case l_TParts_m_inner_fx => k_is); (case c_TParts_m_inner_fx => k_is); (case k_TParts_m_inner_fx => k_is); (case b_TParts_m_inner_fx => exact fun us hl => match us, hl with | [_], _ => rfl)))
        (case TParts_m_inner_ct => (refine' Ru.methAt_mk ?a_TParts_m_inner_ct ?i_TParts_m_inner_ct ?l_TParts_m_inner_ct ?c_TParts_m_inner_ct ?k_TParts_m_inner_ct ?b_TParts_m_inner_ct; (case a_TParts_m_inner_ct => k_is); (case i_TParts_m_inner_ct => k_is); (case l_TParts_m_inner_ct => k_is); (case c_TParts_m_inner_ct => k_is); (case k_TParts_m_inner_ct => k_is); (case b_TParts_m_inner_ct => exact fun us hl => match us, hl with | [_], _ => rfl)))
        (case TParts_m_inner_tn => (refine' Ru.methAt_mk ?a_TParts_m_inner_tn ?i_TParts_m_inner_tn ?l_TParts_m_inner_tn ?c_TParts_m_inner_tn ?k_TParts_m_inner_tn ?b_TParts_m_inner_tn; (case a_TParts_m_inner_tn => k_is); (case i_TParts_m_inner_tn => k_is); (case l_TParts_m_inner_tn => k_is); (case c_TParts_m_inner_tn => k_is); (case k_TParts_m_inner_tn => k_is); (case b_TParts_m_inner_tn => exact fun us hl => match us, hl with | [_], _ => rfl)))
        (case TParts_m_inner_sr => (refine' Ru.methAt_mk ?a_TParts_m_inner_sr ?i_TParts_m_inner_sr ?l_TParts_m_inner_sr ?c_TParts_m_inner_sr ?k_TParts_m_inner_sr ?b_TParts_m_inner_sr; (case a_TParts_m_inner_sr => k_is); (case i_TParts_m_inner_sr => k_is); (case l_TParts_m_inner_sr => k_is); (case c_TParts_m_inner_sr => k_is); (case k_TParts_m_inner_sr => k_is); (case b_TParts_m_inner_sr => exact fun us hl => match us, hl with | [_], _ => rfl)))
        (case TParts_m_inner_br => (refine' Ru.methAt_mk ?a_TParts_m_inner_br ?i_TParts_m_inner_br ?l_TParts_m_inner_br ?c_TParts_m_inner_br ?k_TParts_m_inner_br ?b_TParts_m_inner_br; (case a_TParts_m_inner_br => k_is); (case i_TParts_m_inner_br => k_is); (case l_TParts_m_inner_br => k_is); (case c_TParts_m_inner_br => k_is); (case k_TParts_m_inner_br => k_is); (case b_TParts_m_inner_br => exact fun us hl => match us, hl with | [_], _ => rfl)))
        (case TParts_m_size_fx => (refine' Ru.methAt_mk ?a_TParts_m_size_fx ?i_TParts_m_size_fx ?l_TParts_m_size_fx ?c_TParts_m_size_fx ?k_TParts_m_size_fx ?b_TParts_m_size_fx; (case a_TParts_m_size_fx => k_is); (case i_TParts_m_size_fx => k_is); (case l_TParts_m_size_fx => k_is); (case c_TParts_m_size_fx => k_is); (case k_TParts_m_size_fx => k_is); (case b_TParts_m_size_fx => exact fun us hl => match us, hl with | [_], _ => rfl)))
        (case TParts_m_size_ct => (refine' Ru.methAt_mk ?a_TParts_m_size_ct ?i_TParts_m_size_ct ?l_TParts_m_size_ct ?c_TParts_m_size_ct ?k_TParts_m_size_ct ?b_TParts_m_size_ct; (case a_TParts_m_size_ct => k_is); (case i_TParts_m_size_ct => k_is); (case l_TParts_m_size_ct => k_is); (case c_TParts_m_size_ct => k_is); (case k_TParts_m_size_ct => k_is); (case b_TParts_m_size_ct => exact fun us hl => match us, hl with | [_], _ => rfl)))
        (case TParts_m_size_tn => (refine' Ru.methAt_mk ?a_TParts_m_size_tn ?i_TParts_m_size_tn ?l_TParts_m_size_tn ?c_TParts_m_size_tn ?k_TParts_m_size_tn ?b_TParts_m_size_tn; (case a_TParts_m_size_tn => k_is); (case i_TParts_m_size_tn => k_is); (case l_TParts_m_size_tn => k_is); (case c_TParts_m_size_tn => k_is); (case k_TParts_m_size_tn => k_is); (case b_TParts_m_size_tn => exact fun us hl => match us, hl with | [_], _ => rfl)))
        (case TParts_m_size_sr => (refine' Ru.methAt_mk ?a_TParts_m_size_sr ?i_TParts_m_size_sr ?l_TParts_m_size_sr ?c_TParts_m_size_sr ?k_TParts_m_size_sr ?b_TParts_m_size_sr; (case a_TParts_m_size_sr => k_is); (case i_TParts_m_size_sr => k_is); (case l_TParts_m_size_sr => k_is); (case c_TParts_m_size_sr => k_is); (case k_TParts_m_size_sr => k_is); (case b_TParts_m_size_sr => exact fun us hl => match us, hl with | [_], _ => rfl)))
        (case TParts_m_size_br => (refine' Ru.methAt_mk ?a_TParts_m_size_br ?i_TParts_m_size_br ?l_TParts_m_size_br ?c_TParts_m_size_br ?k_TParts_m_size_br ?b_TParts_m_size_br; (case a_TParts_m_size_br => k_is); (case i_TParts_m_size_br => k_is); (case l_TParts_m_size_br => k_is); (case c_TParts_m_size_br => k_is); (case k_TParts_m_size_br => k_is); (case b_TParts_m_size_br => exact fun us hl => match us, hl with | [_], _ => rfl)))
        (case TParts_m_depth_fx => (refine' Ru.methAt_mk ?a_TParts_m_depth_fx ?i_TParts_m_depth_fx ?l_TParts_m_depth_fx ?c_TParts_m_depth_fx ?k_TParts_m_depth_fx ?b_TParts_m_depth_fx; (case a_TParts_m_depth_fx => k_is); (case i_TParts_m_depth_fx => k_is); (case l_TParts_m_depth_fx => k_is); (case c_TParts_m_depth_fx => k_is); (case k_TParts_m_depth_fx => k_is); (case b_TParts_m_depth_fx => exact fun us hl => match us, hl with | [_], _ => rfl)))
        (case TParts_m_depth_ct => (refine' Ru.methAt_mk ?a_TParts_m_depth_ct ?i_TParts_m_depth_ct ?l_TParts_m_depth_ct ?c_TParts_m_depth_ct ?k_TParts_m_depth_ct ?b_TParts_m_depth_ct; (case a_TParts_m_depth_ct => k_is); (case i_TParts_m_depth_ct => k_is); (case l_TParts_m_depth_ct => k_is); (case c_TParts_m_depth_ct => k_is); (case k_TParts_m_depth_ct => k_is); (case b_TParts_m_depth_ct => exact fun us hl => match us, hl with | [_], _ => rfl)))
        (case TParts_m_depth_tn => (refine' Ru.methAt_mk ?a_TParts_m_depth_tn ?i_TParts_m_depth_tn ?l_TParts_m_depth_tn ?c_TParts_m_depth_tn ?k_TParts_m_depth_tn ?b_TParts_m_depth_tn; (case a_TParts_m_depth_tn => k_is); (case i_TParts_m_depth_tn => k_is); (case l_TParts_m_depth_tn => k_is); (case c_TParts_m_depth_tn => k_is); (case k_TParts_m_depth_tn => k_is); (case b_TParts_m_depth_tn => exact fun us hl => match us, hl with | [_], _ => rfl)))
        (case TParts_m_depth_sr => (refine' Ru.methAt_mk ?a_TParts_m_depth_sr ?i_TParts_m_depth_sr ?l_TParts_m_depth_sr ?c_TParts_m_depth_sr ?k_TParts_m_depth_sr ?b_TParts_m_depth_sr; (case a_TParts_m_depth_sr => k_is); (case i_TParts_m_depth_sr => k_is); (case l_TParts_m_depth_sr => k_is); (case c_TParts_m_depth_sr => k_is); (case k_TParts_m_depth_sr => k_is); (case b_TParts_m_depth_sr => exact fun us hl => match us, hl with | [_], _ => rfl)))
        (case TParts_m_depth_br => (refine' Ru.methAt_mk ?a_TParts_m_depth_br ?i_TParts_m_depth_br ?l_TParts_m_depth_br ?c_TParts_m_depth_br ?k_TParts_m_depth_br ?b_TParts_m_depth_br; (case a_TParts_m_depth_br => k_is); (case i_TParts_m_depth_br => k_is); (case l_TParts_m_depth_br => k_is); (case c_TParts_m_depth_br => k_is); (case k_TParts_m_depth_br => k_is); (case b_TParts_m_depth_br => exact fun us hl => match us, hl with | [_], _ => rfl)))
        (case TParts_m_bounded_tn => (refine' Ru.methAt_mk ?a_TParts_m_bounded_tn ?i_TParts_m_bounded_tn ?l_TParts_m_bounded_tn ?c_TParts_m_bounded_tn ?k_TParts_m_bounded_tn ?b_TParts_m_bounded_tn; (case a_TParts_m_bounded_tn => k_is); (case i_TParts_m_bounded_tn => k_is); (case l_TParts_m_bounded_tn => k_is); (case c_TParts_m_bounded_tn => k_is); (case k_TParts_m_bounded_tn => k_is); (case b_TParts_m_bounded_tn => exact fun us hl => match us, hl with | [_], _ => rfl)))
        (case TParts_m_bounded_sr => (refine' Ru.methAt_mk ?a_TParts_m_bounded_sr ?i_TParts_m_bounded_sr ?l_TParts_m_bounded_sr ?c_TParts_m_bounded_sr ?k_TParts_m_bounded_sr ?b_TParts_m_bounded_sr; (case a_TParts_m_bounded_sr => k_is); (case i_TParts_m_bounded_sr => k_is); (case l_TParts_m_bounded_sr => k_is); (case c_TParts_m_bounded_sr => k_is); (case k_TParts_m_bounded_sr => k_is); (case b_TParts_m_bounded_sr => exact fun us hl => match us, hl with | [_], _ => rfl)))
        (case TParts_m_bounded_br => (refine' Ru.methAt_mk ?a_TParts_m_bounded_br ?i_TParts_m_bounded_br ?l_TParts_m_bounded_br ?c_TParts_m_bounded_br ?k_TParts_m_bounded_br ?b_TParts_m_bounded_br; (case a_TParts_m_bounded_br => k_is); (case i_TParts_m_bounded_br => k_is); (case l_TParts_m_bounded_br => k_is); (case c_TParts_m_bounded_br => k_is); (case k_TParts_m_bounded_br => k_is); (case b_TParts_m_bounded_br => exact fun us hl => match us, hl with | [_], _ => rfl)))
        (case TParts_z_sum => (exact PySem.W.mg_none_of KX G (by k_is)))
        (case TParts_z_max => (exact PySem.W.mg_none_of KX G (by k_is)))
        (case TParts_z_tuple => (exact PySem.W.mg_none_of KX G (by k_is)))
        (case TParts_g_MOST_SIZE => (refine' Ru.globC_mk KX G ?a_TParts_g_MOST_SIZE ?r_TParts_g_MOST_SIZE; (case a_TParts_g_MOST_SIZE => k_is); (case r_TParts_g_MOST_SIZE => exact ⟨_, rfl⟩)))
        (case TParts_g_MOST_DEEP => (refine' Ru.globC_mk KX G ?a_TParts_g_MOST_DEEP ?r_TParts_g_MOST_DEEP; (case a_TParts_g_MOST_DEEP => k_is); (case r_TParts_g_MOST_DEEP => exact ⟨_, rfl⟩)))
      refine' My.split_TMake ?p_TMake (fun s_TMake => ?t_TMake)
      case p_TMake =>
        refine' ⟨s_TNames, s_TParts, ?TMake_i_fx, ?TMake_i_ct, ?TMake_i_tn, ?TMake_i_sr, ?TMake_i_br, ?TMake_z_len, ?TMake_z_tuple⟩
        (case TMake_i_fx => (refine' Ru.methAt_mk ?a_TMake_i_fx ?i_TMake_i_fx ?l_TMake_i_fx ?c_TMake_i_fx ?k_TMake_i_fx ?b_TMake_i_fx; (case a_TMake_i_fx => k_is); (case i_TMake_i_fx => k_is); (case l_TMake_i_fx => k_is); (case c_TMake_i_fx => k_is); (case k_TMake_i_fx => k_is); (case b_TMake_i_fx => exact fun us hl => match us, hl with | [_, _], _ => rfl)))
        (case TMake_i_ct => (refine' Ru.methAt_mk ?a_TMake_i_ct ?i_TMake_i_ct ?l_TMake_i_ct ?c_TMake_i_ct ?k_TMake_i_ct ?b_TMake_i_ct; (case a_TMake_i_ct => k_is); (case i_TMake_i_ct => k_is); (case l_TMake_i_ct => k_is); (case c_TMake_i_ct => k_is); (case k_TMake_i_ct => k_is); (case b_TMake_i_ct => exact fun us hl => match us, hl with | [_, _], _ => rfl)))
        (case TMake_i_tn => (refine' Ru.methAt_mk ?a_TMake_i_tn ?i_TMake_i_tn ?l_TMake_i_tn ?c_TMake_i_tn ?k_TMake_i_tn ?b_TMake_i_tn; (case a_TMake_i_tn => k_is); (case i_TMake_i_tn => k_is); (case l_TMake_i_tn => k_is); (case c_TMake_i_tn => k_is); (case k_TMake_i_tn => k_is); (case b_TMake_i_tn => exact fun us hl => match us, hl with | [_, _], _ => rfl)))
        (case TMake_i_sr => (refine' Ru.methAt_mk ?a_TMake_i_sr ?i_TMake_i_sr ?l_TMake_i_sr ?c_TMake_i_sr ?k_TMake_i_sr ?b_TMake_i_sr; (case a_TMake_i_sr => k_is); (case i_TMake_i_sr => k_is); (case l_TMake_i_sr => k_is); (case c_TMake_i_sr => k_is); (case k_TMake_i_sr => k_is); (case b_TMake_i_sr => exact fun us hl => match us, hl with | [_, _], _ => rfl)))
        (case TMake_i_br => (refine' Ru.methAt_mk ?a_TMake_i_br ?i_TMake_i_br ?l_TMake_i_br ?c_TMake_i_br ?k_TMake_i_br ?b_TMake_i_br; (case a_TMake_i_br => k_is); (case i_TMake_i_br => k_is); (case l_TMake_i_br => k_is); (case c_TMake_i_br => k_is); (case k_TMake_i_br => k_is); (case b_TMake_i_br => exact fun us hl => match us, hl with | [_, _], _ => rfl)))
        (case TMake_z_len => (exact PySem.W.mg_none_of KX G (by k_is)))
        (case TMake_z_tuple => (exact PySem.W.mg_none_of KX G (by k_is)))
      refine' My.split_TPartOf ?p_TPartOf (fun s_TPartOf => ?t_TPartOf)
      case p_TPartOf =>
        refine' ⟨s_TMake, ?TPartOf_d_single, ?TPartOf_d_joined, ?TPartOf_d_part_of, ?TPartOf_z_len⟩
        (case TPartOf_d_single => (refine' Ru.defAt_mk KX G ?a_TPartOf_d_single ?l_TPartOf_d_single ?c_TPartOf_d_single ?k_TPartOf_d_single ?b_TPartOf_d_single; (case a_TPartOf_d_single => k_is); (case l_TPartOf_d_single => k_is); (case c_TPartOf_d_single => k_is); (case k_TPartOf_d_single => k_is); (case b_TPartOf_d_single => exact fun us hl => match us, hl with | [_], _ => rfl)))
        (case TPartOf_d_joined => (refine' Ru.defAt_mk KX G ?a_TPartOf_d_joined ?l_TPartOf_d_joined ?c_TPartOf_d_joined ?k_TPartOf_d_joined ?b_TPartOf_d_joined; (case a_TPartOf_d_joined => k_is); (case l_TPartOf_d_joined => k_is); (case c_TPartOf_d_joined => k_is); (case k_TPartOf_d_joined => k_is); (case b_TPartOf_d_joined => exact fun us hl => match us, hl with | [_, _], _ => rfl)))
        (case TPartOf_d_part_of => (refine' Ru.defAt_mk KX G ?a_TPartOf_d_part_of ?l_TPartOf_d_part_of ?c_TPartOf_d_part_of ?k_TPartOf_d_part_of ?b_TPartOf_d_part_of; (case a_TPartOf_d_part_of => k_is); (case l_TPartOf_d_part_of => k_is); (case c_TPartOf_d_part_of => k_is); (case k_TPartOf_d_part_of => k_is); (case b_TPartOf_d_part_of => exact fun us hl => match us, hl with | [_], _ => rfl)))
        (case TPartOf_z_len => (exact PySem.W.mg_none_of KX G (by k_is)))
      refine' My.split_TExc ?p_TExc (fun s_TExc => ?t_TExc)
      case p_TExc =>
        refine' ⟨?TExc_e_err, ?TExc_e_name, ?TExc_e_part⟩
        (case TExc_e_err => (refine' Ru.errAt_mk KX G ?a_TExc_e_err ?b_TExc_e_err ?c_TExc_e_err ?d_TExc_e_err; (case a_TExc_e_err => k_is); (case b_TExc_e_err => k_is); (case c_TExc_e_err => k_is); (case d_TExc_e_err => k_is)))
        (case TExc_e_name => (refine' Ru.excAt_mk KX G ?a_TExc_e_name ?b_TExc_e_name ?c_TExc_e_name ?d_TExc_e_name ?e_TExc_e_name ?f_TExc_e_name ?g_TExc_e_name ?i_TExc_e_name ?j_TExc_e_name ?k_TExc_e_name ?l_TExc_e_name ?m_TExc_e_name ?n_TExc_e_name ?o_TExc_e_name; (case a_TExc_e_name => k_is); (case c_TExc_e_name => k_is); (case d_TExc_e_name => k_is); (case e_TExc_e_name => k_is); (case f_TExc_e_name => k_is); (case g_TExc_e_name => k_is); (case i_TExc_e_name => k_is); (case j_TExc_e_name => k_is); (case k_TExc_e_name => k_is); (case l_TExc_e_name => k_is); (case m_TExc_e_name => k_is); (case n_TExc_e_name => k_is); (case b_TExc_e_name => k_exc); (case o_TExc_e_name => rfl)))
        (case TExc_e_part => (refine' Ru.excAt_mk KX G ?a_TExc_e_part ?b_TExc_e_part ?c_TExc_e_part ?d_TExc_e_part ?e_TExc_e_part ?f_TExc_e_part ?g_TExc_e_part ?i_TExc_e_part ?j_TExc_e_part ?k_TExc_e_part ?l_TExc_e_part ?m_TExc_e_part ?n_TExc_e_part ?o_TExc_e_part; (case a_TExc_e_part => k_is); (case c_TExc_e_part => k_is); (case d_TExc_e_part => k_is); (case e_TExc_e_part => k_is); (case f_TExc_e_part => k_is); (case g_TExc_e_part => k_is); (case i_TExc_e_part => k_is); (case j_TExc_e_part => k_is); (case k_TExc_e_part => k_is); (case l_TExc_e_part => k_is); (case m_TExc_e_part => k_is); (case n_TExc_e_part => k_is); (case b_TExc_e_part => k_exc); (case o_TExc_e_part => rfl)))
      refine' My.split_TRef ?p_TRef (fun s_TRef => ?t_TRef)
      case p_TRef =>
        refine' ⟨s_TPartOf, s_TExc⟩
      refine' My.split_TKind ?p_TKind (fun s_TKind => ?t_TKind)
      case p_TKind =>
        refine' ⟨s_TRef, ?TKind_e_end, ?TKind_e_ladder, ?TKind_e_match, ?TKind_e_row, ?TKind_e_sheet, ?TKind_e_state, ?TKind_e_text, ?TKind_e_many, ?TKind_ndx, ?TKind_d_kind, ?TKind_d_made, ?TKind_d_told, ?TKind_z_isinstance, ?TKind_z_ValueError, ?TKind_z_int⟩
        (case TKind_e_end => (refine' Ru.excAt_mk KX G ?a_TKind_e_end ?b_TKind_e_end ?c_TKind_e_end ?d_TKind_e_end ?e_TKind_e_end ?f_TKind_e_end ?g_TKind_e_end ?i_TKind_e_end ?j_TKind_e_end ?k_TKind_e_end ?l_TKind_e_end ?m_TKind_e_end ?n_TKind_e_end ?o_TKind_e_end; (case a_TKind_e_end => k_is); (case c_TKind_e_end => k_is); (case d_TKind_e_end => k_is); (case e_TKind_e_end => k_is); (case f_TKind_e_end => k_is); (case g_TKind_e_end => k_is); (case i_TKind_e_end => k_is); (case j_TKind_e_end => k_is); (case k_TKind_e_end => k_is); (case l_TKind_e_end => k_is); (case m_TKind_e_end => k_is); (case n_TKind_e_end => k_is); (case b_TKind_e_end => k_exc); (case o_TKind_e_end => rfl)))
        (case TKind_e_ladder => (refine' Ru.excAt_mk KX G ?a_TKind_e_ladder ?b_TKind_e_ladder ?c_TKind_e_ladder ?d_TKind_e_ladder ?e_TKind_e_ladder ?f_TKind_e_ladder ?g_TKind_e_ladder ?i_TKind_e_ladder ?j_TKind_e_ladder ?k_TKind_e_ladder ?l_TKind_e_ladder ?m_TKind_e_ladder ?n_TKind_e_ladder ?o_TKind_e_ladder; (case a_TKind_e_ladder => k_is); (case c_TKind_e_ladder => k_is); (case d_TKind_e_ladder => k_is); (case e_TKind_e_ladder => k_is); (case f_TKind_e_ladder => k_is); (case g_TKind_e_ladder => k_is); (case i_TKind_e_ladder => k_is); (case j_TKind_e_ladder => k_is); (case k_TKind_e_ladder => k_is); (case l_TKind_e_ladder => k_is); (case m_TKind_e_ladder => k_is); (case n_TKind_e_ladder => k_is); (case b_TKind_e_ladder => k_exc); (case o_TKind_e_ladder => rfl)))
        (case TKind_e_match => (refine' Ru.excAt_mk KX G ?a_TKind_e_match ?b_TKind_e_match ?c_TKind_e_match ?d_TKind_e_match ?e_TKind_e_match ?f_TKind_e_match ?g_TKind_e_match ?i_TKind_e_match ?j_TKind_e_match ?k_TKind_e_match ?l_TKind_e_match ?m_TKind_e_match ?n_TKind_e_match ?o_TKind_e_match; (case a_TKind_e_match => k_is); (case c_TKind_e_match => k_is); (case d_TKind_e_match => k_is); (case e_TKind_e_match => k_is); (case f_TKind_e_match => k_is); (case g_TKind_e_match => k_is); (case i_TKind_e_match => k_is); (case j_TKind_e_match => k_is); (case k_TKind_e_match => k_is); (case l_TKind_e_match => k_is); (case m_TKind_e_match => k_is); (case n_TKind_e_match => k_is); (case b_TKind_e_match => k_exc); (case o_TKind_e_match => rfl)))
        (case TKind_e_row => (refine' Ru.excAt_mk KX G ?a_TKind_e_row ?b_TKind_e_row ?c_TKind_e_row ?d_TKind_e_row ?e_TKind_e_row ?f_TKind_e_row ?g_TKind_e_row ?i_TKind_e_row ?j_TKind_e_row ?k_TKind_e_row ?l_TKind_e_row ?m_TKind_e_row ?n_TKind_e_row ?o_TKind_e_row; (case a_TKind_e_row => k_is); (case c_TKind_e_row => k_is); (case d_TKind_e_row => k_is); (case e_TKind_e_row => k_is); (case f_TKind_e_row => k_is); (case g_TKind_e_row => k_is); (case i_TKind_e_row => k_is); (case j_TKind_e_row => k_is); (case k_TKind_e_row => k_is); (case l_TKind_e_row => k_is); (case m_TKind_e_row => k_is); (case n_TKind_e_row => k_is); (case b_TKind_e_row => k_exc); (case o_TKind_e_row => rfl)))
        (case TKind_e_sheet => (refine' Ru.excAt_mk KX G ?a_TKind_e_sheet ?b_TKind_e_sheet ?c_TKind_e_sheet ?d_TKind_e_sheet ?e_TKind_e_sheet ?f_TKind_e_sheet ?g_TKind_e_sheet ?i_TKind_e_sheet ?j_TKind_e_sheet ?k_TKind_e_sheet ?l_TKind_e_sheet ?m_TKind_e_sheet ?n_TKind_e_sheet ?o_TKind_e_sheet; (case a_TKind_e_sheet => k_is); (case c_TKind_e_sheet => k_is); (case d_TKind_e_sheet => k_is); (case e_TKind_e_sheet => k_is); (case f_TKind_e_sheet => k_is); (case g_TKind_e_sheet => k_is); (case i_TKind_e_sheet => k_is); (case j_TKind_e_sheet => k_is); (case k_TKind_e_sheet => k_is); (case l_TKind_e_sheet => k_is); (case m_TKind_e_sheet => k_is); (case n_TKind_e_sheet => k_is); (case b_TKind_e_sheet => k_exc); (case o_TKind_e_sheet => rfl)))
        (case TKind_e_state => (refine' Ru.excAt_mk KX G ?a_TKind_e_state ?b_TKind_e_state ?c_TKind_e_state ?d_TKind_e_state ?e_TKind_e_state ?f_TKind_e_state ?g_TKind_e_state ?i_TKind_e_state ?j_TKind_e_state ?k_TKind_e_state ?l_TKind_e_state ?m_TKind_e_state ?n_TKind_e_state ?o_TKind_e_state; (case a_TKind_e_state => k_is); (case c_TKind_e_state => k_is); (case d_TKind_e_state => k_is); (case e_TKind_e_state => k_is); (case f_TKind_e_state => k_is); (case g_TKind_e_state => k_is); (case i_TKind_e_state => k_is); (case j_TKind_e_state => k_is); (case k_TKind_e_state => k_is); (case l_TKind_e_state => k_is); (case m_TKind_e_state => k_is); (case n_TKind_e_state => k_is); (case b_TKind_e_state => k_exc); (case o_TKind_e_state => rfl)))
        (case TKind_e_text => (refine' Ru.excAt_mk KX G ?a_TKind_e_text ?b_TKind_e_text ?c_TKind_e_text ?d_TKind_e_text ?e_TKind_e_text ?f_TKind_e_text ?g_TKind_e_text ?i_TKind_e_text ?j_TKind_e_text ?k_TKind_e_text ?l_TKind_e_text ?m_TKind_e_text ?n_TKind_e_text ?o_TKind_e_text; (case a_TKind_e_text => k_is); (case c_TKind_e_text => k_is); (case d_TKind_e_text => k_is); (case e_TKind_e_text => k_is); (case f_TKind_e_text => k_is); (case g_TKind_e_text => k_is); (case i_TKind_e_text => k_is); (case j_TKind_e_text => k_is); (case k_TKind_e_text => k_is); (case l_TKind_e_text => k_is); (case m_TKind_e_text => k_is); (case n_TKind_e_text => k_is); (case b_TKind_e_text => k_exc); (case o_TKind_e_text => rfl)))
        (case TKind_e_many => (refine' Ru.excAt_mk KX G ?a_TKind_e_many ?b_TKind_e_many ?c_TKind_e_many ?d_TKind_e_many ?e_TKind_e_many ?f_TKind_e_many ?g_TKind_e_many ?i_TKind_e_many ?j_TKind_e_many ?k_TKind_e_many ?l_TKind_e_many ?m_TKind_e_many ?n_TKind_e_many ?o_TKind_e_many; (case a_TKind_e_many => k_is); (case c_TKind_e_many => k_is); (case d_TKind_e_many => k_is); (case e_TKind_e_many => k_is); (case f_TKind_e_many => k_is); (case g_TKind_e_many => k_is); (case i_TKind_e_many => k_is); (case j_TKind_e_many => k_is); (case k_TKind_e_many => k_is); (case l_TKind_e_many => k_is); (case m_TKind_e_many => k_is); (case n_TKind_e_many => k_is); (case b_TKind_e_many => k_exc); (case o_TKind_e_many => rfl)))
        (case TKind_ndx => decide)
        (case TKind_d_kind => (refine' Ru.defAt_mk KX G ?a_TKind_d_kind ?l_TKind_d_kind ?c_TKind_d_kind ?k_TKind_d_kind ?b_TKind_d_kind; (case a_TKind_d_kind => k_is); (case l_TKind_d_kind => k_is); (case c_TKind_d_kind => k_is); (case k_TKind_d_kind => k_is); (case b_TKind_d_kind => exact fun us hl => match us, hl with | [_], _ => rfl)))
        (case TKind_d_made => (refine' Ru.defAt_mk KX G ?a_TKind_d_made ?l_TKind_d_made ?c_TKind_d_made ?k_TKind_d_made ?b_TKind_d_made; (case a_TKind_d_made => k_is); (case l_TKind_d_made => k_is); (case c_TKind_d_made => k_is); (case k_TKind_d_made => k_is); (case b_TKind_d_made => exact fun us hl => match us, hl with | [_, _], _ => rfl)))
        (case TKind_d_told => (refine' Ru.defAt_mk KX G ?a_TKind_d_told ?l_TKind_d_told ?c_TKind_d_told ?k_TKind_d_told ?b_TKind_d_told; (case a_TKind_d_told => k_is); (case l_TKind_d_told => k_is); (case c_TKind_d_told => k_is); (case k_TKind_d_told => k_is); (case b_TKind_d_told => exact fun us hl => match us, hl with | [_, _], _ => rfl)))
        (case TKind_z_isinstance => (exact PySem.W.mg_none_of KX G (by k_is)))
        (case TKind_z_ValueError => (exact PySem.W.mg_none_of KX G (by k_is)))
        (case TKind_z_int => (exact PySem.W.mg_none_of KX G (by k_is)))
      refine' My.split_TDraw ?p_TDraw (fun s_TDraw => ?t_TDraw)
      case p_TDraw =>
        refine' ⟨?TDraw_d_bad, ?TDraw_d_deep, ?TDraw_d_large, ?TDraw_z_range, ?TDraw_z_len⟩
        (case TDraw_d_bad => (refine' Ru.defAt_mk KX G ?a_TDraw_d_bad ?l_TDraw_d_bad ?c_TDraw_d_bad ?k_TDraw_d_bad ?b_TDraw_d_bad; (case a_TDraw_d_bad => k_is); (case l_TDraw_d_bad => k_is); (case c_TDraw_d_bad => k_is); (case k_TDraw_d_bad => k_is); (case b_TDraw_d_bad => exact fun us hl => match us, hl with | [_], _ => rfl)))
        (case TDraw_d_deep => (refine' Ru.defAt_mk KX G ?a_TDraw_d_deep ?l_TDraw_d_deep ?c_TDraw_d_deep ?k_TDraw_d_deep ?b_TDraw_d_deep; (case a_TDraw_d_deep => k_is); (case l_TDraw_d_deep => k_is); (case c_TDraw_d_deep => k_is); (case k_TDraw_d_deep => k_is); (case b_TDraw_d_deep => exact fun us hl => match us, hl with | [_, _, _], _ => rfl)))
        (case TDraw_d_large => (refine' Ru.defAt_mk KX G ?a_TDraw_d_large ?l_TDraw_d_large ?c_TDraw_d_large ?k_TDraw_d_large ?b_TDraw_d_large; (case a_TDraw_d_large => k_is); (case l_TDraw_d_large => k_is); (case c_TDraw_d_large => k_is); (case k_TDraw_d_large => k_is); (case b_TDraw_d_large => exact fun us hl => match us, hl with | [_, _, _], _ => rfl)))
        (case TDraw_z_range => (exact PySem.W.mg_none_of KX G (by k_is)))
        (case TDraw_z_len => (exact PySem.W.mg_none_of KX G (by k_is)))
      refine' My.split_TTop ?p_TTop (fun s_TTop => ?t_TTop)
      case p_TTop =>
        refine' ⟨s_TKind, s_TDraw, ?TTop_d_far, ?TTop_d_bounds, ?TTop_d_few, ?TTop_d_words⟩
        (case TTop_d_far => (refine' Ru.defAt_mk KX G ?a_TTop_d_far ?l_TTop_d_far ?c_TTop_d_far ?k_TTop_d_far ?b_TTop_d_far; (case a_TTop_d_far => k_is); (case l_TTop_d_far => k_is); (case c_TTop_d_far => k_is); (case k_TTop_d_far => k_is); (case b_TTop_d_far => exact fun us hl => match us, hl with | [_, _, _], _ => rfl)))
        (case TTop_d_bounds => (refine' Ru.defAt_mk KX G ?a_TTop_d_bounds ?l_TTop_d_bounds ?c_TTop_d_bounds ?k_TTop_d_bounds ?b_TTop_d_bounds; (case a_TTop_d_bounds => k_is); (case l_TTop_d_bounds => k_is); (case c_TTop_d_bounds => k_is); (case k_TTop_d_bounds => k_is); (case b_TTop_d_bounds => exact fun us hl => match us, hl with | [_, _], _ => rfl)))
        (case TTop_d_few => (refine' Ru.defAt_mk KX G ?a_TTop_d_few ?l_TTop_d_few ?c_TTop_d_few ?k_TTop_d_few ?b_TTop_d_few; (case a_TTop_d_few => k_is); (case l_TTop_d_few => k_is); (case c_TTop_d_few => k_is); (case k_TTop_d_few => k_is); (case b_TTop_d_few => exact fun us hl => match us, hl with | [_, _], _ => rfl)))
        (case TTop_d_words => (refine' Ru.defAt_mk KX G ?a_TTop_d_words ?l_TTop_d_words ?c_TTop_d_words ?k_TTop_d_words ?b_TTop_d_words; (case a_TTop_d_words => k_is); (case l_TTop_d_words => k_is); (case c_TTop_d_words => k_is); (case k_TTop_d_words => k_is); (case b_TTop_d_words => exact fun us hl => match us, hl with | [_, _, _], _ => rfl)))
      refine' My.split_TCells ?p_TCells (fun s_TCells => ?t_TCells)
      case p_TCells =>
        refine' ⟨?TCells_d_cell_at, ?TCells_d_mixed, ?TCells_d_word, ?TCells_z_len, ?TCells_z_range⟩
        (case TCells_d_cell_at => (refine' Ru.defAt_mk KX G ?a_TCells_d_cell_at ?l_TCells_d_cell_at ?c_TCells_d_cell_at ?k_TCells_d_cell_at ?b_TCells_d_cell_at; (case a_TCells_d_cell_at => k_is); (case l_TCells_d_cell_at => k_is); (case c_TCells_d_cell_at => k_is); (case k_TCells_d_cell_at => k_is); (case b_TCells_d_cell_at => exact fun us hl => match us, hl with | [_, _], _ => rfl)))
        (case TCells_d_mixed => (refine' Ru.defAt_mk KX G ?a_TCells_d_mixed ?l_TCells_d_mixed ?c_TCells_d_mixed ?k_TCells_d_mixed ?b_TCells_d_mixed; (case a_TCells_d_mixed => k_is); (case l_TCells_d_mixed => k_is); (case c_TCells_d_mixed => k_is); (case k_TCells_d_mixed => k_is); (case b_TCells_d_mixed => exact fun us hl => match us, hl with | [_, _], _ => rfl)))
        (case TCells_d_word => (refine' Ru.defAt_mk KX G ?a_TCells_d_word ?l_TCells_d_word ?c_TCells_d_word ?k_TCells_d_word ?b_TCells_d_word; (case a_TCells_d_word => k_is); (case l_TCells_d_word => k_is); (case c_TCells_d_word => k_is); (case k_TCells_d_word => k_is); (case b_TCells_d_word => exact fun us hl => match us, hl with | [_, _], _ => rfl)))
        (case TCells_z_len => (exact PySem.W.mg_none_of KX G (by k_is)))
        (case TCells_z_range => (exact PySem.W.mg_none_of KX G (by k_is)))
      refine' My.split_TNames5 ?p_TNames5 (fun s_TNames5 => ?t_TNames5)
      case p_TNames5 =>
        refine' ⟨s_TCells, ?TNames5_d_names, ?TNames5_z_range⟩
        (case TNames5_d_names => (refine' Ru.defAt_mk KX G ?a_TNames5_d_names ?l_TNames5_d_names ?c_TNames5_d_names ?k_TNames5_d_names ?b_TNames5_d_names; (case a_TNames5_d_names => k_is); (case l_TNames5_d_names => k_is); (case c_TNames5_d_names => k_is); (case k_TNames5_d_names => k_is); (case b_TNames5_d_names => exact fun us hl => match us, hl with | [_], _ => rfl)))
        (case TNames5_z_range => (exact PySem.W.mg_none_of KX G (by k_is)))
      refine' ⟨s_TTop, s_TNames5, ?Txt_law⟩
      (case Txt_law => (refine' Ru.lawAt_mk KX G ?a_Txt_law ?l_Txt_law ?c_Txt_law ?k_Txt_law ?b_Txt_law; (case a_Txt_law => k_is); (case l_Txt_law => k_is); (case c_Txt_law => k_is); (case k_Txt_law => k_is); (case b_Txt_law => exact fun _ => rfl)))
#print axioms PySem.Challenge.cw_rungworks_k05_what_makes_none_holds
