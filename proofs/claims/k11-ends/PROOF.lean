import PyProof.Rows.All
import Wide.All
import OpenK.AllK
import Wide.FinOn
import HandS.ForMost
import HandS.Codes
import HandS.Style
import HandS.IsInst
import KE.KDictSum
import HandS.Conv
import HandS.ExcOwn
import HandS.ExcIs
import HandS.HotCalls
import HandS.TupMul
import PySem.Challenge.RW_rungworks_k11_ends
set_option Elab.async false
set_option linter.all false
set_option maxRecDepth 100000
set_option maxHeartbeats 2000000
namespace Ru
open PySem PySem.Spec PyProof.Rows L2

/-! ## a def of the module as a caller sees it -/
/-- the def called x is the module's, with body st -/
structure DefAt (K : PySem.W.Frag) (mg : Str → Option Value) (x : Str) (st : Stmt) (ps : List Str) : Prop where
  ex : ∃ f fd, mg x = some (.ref f) ∧ Fun K x x st f fd ∧ Binds K fd ps []
/-- the def called x keeps the promise sp -/
structure FnAt (P : Program) (w : World) (K : PySem.W.Frag) (mg : Str → Option Value) (base : Heap) (cx : CXT) (x : Str) (k : Nat) (ps : List Str) (sp : Sp) : Prop where
  ex : ∃ f fd, mg x = some (.ref f) ∧ PySem.W.keepIn K (.ref f) = true ∧ Binds K fd ps [] ∧ FnOk P w K mg base cx k f fd ps sp
theorem FnAt.mono {P : Program} {w : World} {K : PySem.W.Frag} {mg : Str → Option Value} {base : Heap} {cx : CXT} {x : Str} {j k : Nat} {ps : List Str} {sp : Sp} (F : FnAt P w K mg base cx x j ps sp) (h : j ≤ k) : FnAt P w K mg base cx x k ps sp := by
  obtain ⟨f, fd, h1, h2, h3, h4⟩ := F.ex
  exact ⟨f, fd, h1, h2, h3, h4.mono h⟩
theorem FnAt.imp {P : Program} {w : World} {K : PySem.W.Frag} {mg : Str → Option Value} {base : Heap} {cx : CXT} {x : Str} {k : Nat} {ps : List Str} {sp sp' : Sp} (F : FnAt P w K mg base cx x k ps sp) (h : ∀ vs H Q E, sp' vs H Q E → sp vs H Q E) : FnAt P w K mg base cx x k ps sp' := by
  obtain ⟨f, fd, h1, h2, h3, h4⟩ := F.ex
  exact ⟨f, fd, h1, h2, h3, h4.imp h⟩
section
variable {P : Program} {w : World} {K : PySem.W.Frag} {mg : Str → Option Value} {base : Heap}
theorem fnAt_ok {x : Str} {st : Stmt} {N ps : List Str} {k : Nat} {sp : Sp} (D : DefAt K mg x st ps) (S : FnScope N ps (defScope st)) (len : ∀ vs H Q E, sp vs H Q E → vs.length = ps.length)
    (hbody : ∀ (f : Addr) (cdv : Value) (A : Around) (outer : List Env) (s : Shared) (H : Hp) (vs : List V) (Q : VK) (E : XK), Room k (A.deeper (envOfC x (defScope st) s.heap.objs.size f cdv)) → sp vs H Q E →
      ∃ t, PSs (cxOf CX0 P w K mg base N x (defScope st) f cdv A outer s H E).nox (defBody st) t ∧ t { nx := fun _ H' => Q .non H', rt := Q } (start N vs) H) : FnAt P w K mg base CX0 x (k + 1) ps sp := by
  obtain ⟨f, fd, h1, h2, h3⟩ := D.ex
  exact ⟨f, fd, h1, h2.kp, h3, h2.ok S len (hbody f)⟩
theorem defAt_mk {h : Heap} {x : Str} {st : Stmt} {ps : List Str} {f : Addr} {oc : Value} {od an : Option Addr} {osl : Array (Option Value)} {kV doc pm cdv ct : Value} (X : K.In h) (G : h.Ns mainGlobals mg)
    (a : PySem.W.nsIn K mainGlobals x = some (some (.ref f))) (l : K.lookup f = some ⟨oc, od, .func (PySem.W.fnOf x x (defArgs st) (defBody st) (defScope st) .none kV doc pm an cdv ct), osl⟩)
    (c : PySem.W.codeIn K cdv x = true) (k : PySem.W.keepIn K (.ref f) = true)
    (b : ∀ us : List Value, us.length = ps.length → bindArgs (PySem.W.fnOf x x (defArgs st) (defBody st) (defScope st) .none kV doc pm an cdv ct) ⟨us, []⟩ = pure (ps.zip us)) : DefAt K mg x st ps :=
  ⟨f, _, PySem.W.mg_of X G a, fun_mk l c k, .all b⟩
end
section
variable {X : Cx} {cx : CXT} {j k : Nat} {ps : List Str} {sp : Sp} {E : XK} {x : Str} {p pos : Pos} {e : Expr} {es : List Expr} {t : TA}
theorem pe_callF (F : FnAt X.prog X.w X.K X.mg X.base cx x k ps sp) (hr : Room j X.A) (hx : Passes cx X E) (ha : PA X (e :: es) t) (hj : k ≤ j := by decide) (hg : Gl X x := by rfl)
    (hdb : (x == ("__debug__" : Str)) = false := by decide) (he : starEach (e :: es) X.env = (false, eval e X.env) :: starEach es X.env := by rfl) (hpl : (backTo pos (starEach es X.env)).any (·.1) = false := by rfl) :
    PE X (.Call (.Name x p) (e :: es) [] pos) (tCall sp [] E t) := by
  obtain ⟨f, fd, h1, h2, h3, h4⟩ := F.ex
  exact pe_call h4 (hr.mono hj) hg h1 h2 h3 .nil hx ha hdb he hpl
theorem pe_callF0 (F : FnAt X.prog X.w X.K X.mg X.base cx x k ps sp) (hr : Room j X.A) (hx : Passes cx X E) (hj : k ≤ j := by decide) (hg : Gl X x := by rfl)
    (hdb : (x == ("__debug__" : Str)) = false := by decide) : PE X (.Call (.Name x p) [] [] pos) (tCall sp [] E tNil) := by
  obtain ⟨f, fd, h1, h2, h3, h4⟩ := F.ex
  exact pe_call0 h4 (hr.mono hj) hg h1 h2 h3 .nil hx hdb
end

/-! ## constants of the module -/
/-- the module's name x holds the value v -/
def GlobC (mg : Str → Option Value) (x : Str) (v : V) : Prop := ∃ u, mg x = some u ∧ RelV v u
theorem pe_gc {X : Cx} {x : Str} {v : V} {pos : Pos} (h : GlobC X.mg x v) (hg : Gl X x := by rfl) (hd : (x == ("__debug__" : Str)) = false := by decide) : PE X (.Name x pos) (tC v) := by
  obtain ⟨u, h1, h2⟩ := h
  exact pe_glob hg h1 h2 hd
/-- a tuple that stands wherever one looks -/
def TupK (K : PySem.W.Frag) (a : Addr) (xs : List V) : Prop := ∀ H, SqT K H a xs
def GlobT (K : PySem.W.Frag) (mg : Str → Option Value) (x : Str) (xs : List V) : Prop := ∃ a, mg x = some (.ref a) ∧ TupK K a xs
def tGT (K : PySem.W.Frag) (xs : List V) : TE := fun _ H Q => ∀ a, TupK K a xs → Q (.ref a) H
theorem pe_gt {X : Cx} {x : Str} {xs : List V} {pos : Pos} (h : GlobT X.K X.mg x xs) (hg : Gl X x := by rfl) (hd : (x == ("__debug__" : Str)) = false := by decide) : PE X (.Name x pos) (tGT X.K xs) := by
  obtain ⟨a, h1, h2⟩ := h
  exact ⟨fun pins s σ H Q I q => (pe_glob (v := .ref a) hg h1 rfl hd).run pins s σ H Q I (q a h2)⟩
/-- what a written tuple's items are -/
def valsB : List V → List Value → Bool
  | [], [] => true
  | x :: xs, u :: us => (absV u == some x) && valsB xs us
  | _, _ => false
theorem relV_of_abs {x : V} {u : Value} (h : absV u = some x) : RelV x u := by
  cases u <;> simp [absV] at h <;> subst h <;> first | rfl | exact ⟨_, rfl⟩
theorem vals_of_B : ∀ {xs : List V} {us : List Value}, valsB xs us = true → Vals xs us
  | [], [], _ => .nil
  | x :: xs, u :: us, h => by
    unfold valsB at h
    rw [Bool.and_eq_true] at h
    exact .cons (relV_of_abs (by simpa using h.1)) (vals_of_B h.2)
  | [], _ :: _, h => by simp [valsB] at h
  | _ :: _, [], h => by simp [valsB] at h
theorem globT_mk {K : PySem.W.Frag} {mg : Str → Option Value} {h : Heap} {x : Str} {a : Addr} {n : Nat} {its : Array Value} {od : Option Addr} {sl : Array (Option Value)} {xs : List V} (X : K.In h) (G : h.Ns mainGlobals mg)
    (ha : PySem.W.nsIn K mainGlobals x = some (some (.ref a))) (l : K.lookup a = some ⟨.type "tuple", od, .seq its n, sl⟩) (hs : its.size ≤ sizeLine) (hv : Vals xs its.toList) : GlobT K mg x xs :=
  ⟨a, PySem.W.mg_of X G ha, fun _ => .inr ⟨_, its, n, l, rfl, rfl, hs, hv⟩⟩
theorem globC_mk {K : PySem.W.Frag} {mg : Str → Option Value} {h : Heap} {x : Str} {u : Value} {v : V} (X : K.In h) (G : h.Ns mainGlobals mg) (ha : PySem.W.nsIn K mainGlobals x = some (some u)) (r : RelV v u) : GlobC mg x v :=
  ⟨u, PySem.W.mg_of X G ha, r⟩

theorem pc_inK {X : Cx} {x : Str} {xs : List V} {a : Expr} {ta : TE} {pos : Pos} (h : GlobT X.K X.mg x xs) (ha : PE X a ta) (hg : Gl X x := by rfl) (hd : (x == ("__debug__" : Str)) = false := by decide) :
    PC X .In a (.Name x pos) (fun σ H Q => ta σ H fun v H1 => flatV v = true ∧ xs.all flatV = true ∧ Q (.bl (inV v xs)) H1) := by
  obtain ⟨b, h1, h2⟩ := h
  refine ⟨fun pins s σ H Q I q => ?_⟩
  refine bin (R := fun v u H2 => u = .ref b ∧ flatV v = true ∧ xs.all flatV = true ∧ Q (.bl (inV v xs)) H2) ha (pe_glob (v := .ref b) hg h1 rfl hd) I ?_ fun v u s2 x y H2 I2 rx ry q => ?_
  · refine (show ta σ H fun v H1 => (V.ref b = .ref b ∧ flatV v = true ∧ xs.all flatV = true ∧ Q (.bl (inV v xs)) H1) from ?_)
    have : (fun v H1 => flatV v = true ∧ xs.all flatV = true ∧ Q (.bl (inV v xs)) H1) = (fun (v : V) (H1 : Hp) => (V.ref b = .ref b ∧ flatV v = true ∧ xs.all flatV = true ∧ Q (.bl (inV v xs)) H1)) := by
      funext v H1
      simp
    rw [← this]
    exact q
  · obtain ⟨rfl, q1, q2, q3⟩ := q
    exact op_in_seq pins s2 σ H2 _ _ _ _ Q I2 rx ry ⟨b, xs, rfl, .inr (h2 H2), q1, q2, q3⟩
theorem pc_notInK {X : Cx} {x : Str} {xs : List V} {a : Expr} {ta : TE} {pos : Pos} (h : GlobT X.K X.mg x xs) (ha : PE X a ta) (hg : Gl X x := by rfl) (hd : (x == ("__debug__" : Str)) = false := by decide) :
    PC X .NotIn a (.Name x pos) (fun σ H Q => ta σ H fun v H1 => flatV v = true ∧ xs.all flatV = true ∧ Q (.bl (!inV v xs)) H1) := by
  obtain ⟨b, h1, h2⟩ := h
  refine ⟨fun pins s σ H Q I q => ?_⟩
  refine bin (R := fun v u H2 => u = .ref b ∧ flatV v = true ∧ xs.all flatV = true ∧ Q (.bl (!inV v xs)) H2) ha (pe_glob (v := .ref b) hg h1 rfl hd) I ?_ fun v u s2 x y H2 I2 rx ry q => ?_
  · refine (show ta σ H fun v H1 => (V.ref b = .ref b ∧ flatV v = true ∧ xs.all flatV = true ∧ Q (.bl (!inV v xs)) H1) from ?_)
    have : (fun v H1 => flatV v = true ∧ xs.all flatV = true ∧ Q (.bl (!inV v xs)) H1) = (fun (v : V) (H1 : Hp) => (V.ref b = .ref b ∧ flatV v = true ∧ xs.all flatV = true ∧ Q (.bl (!inV v xs)) H1)) := by
      funext v H1
      simp
    rw [← this]
    exact q
  · obtain ⟨rfl, q1, q2, q3⟩ := q
    exact op_notIn_seq pins s2 σ H2 _ _ _ _ Q I2 rx ry ⟨b, xs, rfl, .inr (h2 H2), q1, q2, q3⟩

/-! ## texts as lists of code points -/
def mkS (l : List Nat) : Str := ⟨l.toArray⟩
theorem mkS_len (l : List Nat) : (mkS l).length = l.length := by simp [mkS, Str.length]
theorem mkS_tl (z : Str) : mkS z.cps.toList = z := by simp [mkS]
theorem tl_mkS (l : List Nat) : (mkS l).cps.toList = l := by simp [mkS]
theorem mkS_inj {a b : List Nat} (h : mkS a = mkS b) : a = b := by rw [← tl_mkS a, ← tl_mkS b, h]
theorem mkS_app (a b : List Nat) : mkS a ++ mkS b = mkS (a ++ b) := by
  show Str.append _ _ = _
  simp [Str.append, mkS]
theorem empty_mk : ("" : Str) = mkS [] := by decide +kernel
theorem mkS_one (c : Nat) : (⟨#[c]⟩ : Str) = mkS [c] := rfl
theorem cutS_to (l : List Nat) (n : Nat) : cutS (mkS l) none (some (n : Int)) = mkS (l.take n) := by
  unfold cutS
  rw [HT.sIx_none, HT.sIx_nat, mkS_len, tl_mkS]
  show mkS _ = _
  congr 1
  rw [List.drop_zero, Nat.sub_zero]
  by_cases h : n ≤ l.length
  · rw [Nat.min_eq_left h]
  · rw [Nat.min_eq_right (by omega), List.take_of_length_le (Nat.le_refl _), List.take_of_length_le (by omega)]
theorem cutS_from (l : List Nat) (n : Nat) : cutS (mkS l) (some (n : Int)) none = mkS (l.drop n) := by
  unfold cutS
  rw [HT.sIx_none, HT.sIx_nat, mkS_len, tl_mkS]
  show mkS _ = _
  congr 1
  by_cases h : n ≤ l.length
  · rw [Nat.min_eq_left h, List.take_of_length_le (by rw [List.length_drop]; omega)]
  · rw [Nat.min_eq_right (by omega), List.drop_of_length_le (Nat.le_refl _), List.drop_of_length_le (by omega)]
    simp
theorem cutS_le (z : Str) (lo hi : Option Int) : (cutS z lo hi).length ≤ z.length := by
  unfold cutS Str.length
  simp only [List.size_toArray, List.length_take, List.length_drop, Array.length_toList]
  omega
theorem len_app (x y : Str) : (x ++ y).length = x.length + y.length := strLen_append x y
/-- the item at an int's place -/
theorem atI_int {α : Type} {xs : List α} {i : Int} {v : α} (h0 : 0 ≤ i) (h : xs[i.toNat]? = some v) : atI xs i = some v := by
  obtain ⟨n, rfl⟩ := Int.eq_ofNat_of_zero_le h0
  exact atI_nat h

theorem atI_ex {α : Type} {xs : List α} {i : Int} (h0 : 0 ≤ i) (h : i < xs.length) : ∃ v, v ∈ xs ∧ atI xs i = some v := by
  have hn : i.toNat < xs.length := by omega
  exact ⟨xs[i.toNat], List.getElem_mem hn, atI_int h0 (List.getElem?_eq_getElem hn)⟩
theorem line_ge {n : Nat} (h : n ≤ 1000000) : n ≤ sizeLine := by rw [sizeLine_eq]; omega
/-- the law's def, and how its one argument binds -/
structure LawAt (K : PySem.W.Frag) (mg : Str → Option Value) (st : Stmt) (p : Str) : Prop where
  ex : ∃ f fd, mg "law" = some (.ref f) ∧ Fun K "law" "law" st f fd ∧ ∀ u : Value, bindArgs fd ⟨[u], []⟩ = pure [(p, u)]
theorem lawAt_mk {K : PySem.W.Frag} {mg : Str → Option Value} {h : Heap} {st : Stmt} {p : Str} {f : Addr} {oc : Value} {od an : Option Addr} {osl : Array (Option Value)} {kV doc pm cdv ct : Value} (X : K.In h) (G : h.Ns mainGlobals mg)
    (a : PySem.W.nsIn K mainGlobals "law" = some (some (.ref f))) (l : K.lookup f = some ⟨oc, od, .func (PySem.W.fnOf "law" "law" (defArgs st) (defBody st) (defScope st) .none kV doc pm an cdv ct), osl⟩)
    (c : PySem.W.codeIn K cdv "law" = true) (k : PySem.W.keepIn K (.ref f) = true)
    (b : ∀ u : Value, bindArgs (PySem.W.fnOf "law" "law" (defArgs st) (defBody st) (defScope st) .none kV doc pm an cdv ct) ⟨[u], []⟩ = pure [(p, u)]) : LawAt K mg st p :=
  ⟨f, _, PySem.W.mg_of X G a, fun_mk l c k, b⟩
theorem law_end {prog : Program} {w : World} {K : PySem.W.Frag} {mg : Str → Option Value} {st : Stmt} {p : Str} {fa : Addr} {cx : CXT} {k : Nat} {sp : Sp} (L : LawAt K mg st p) (hfa : mg "law" = some (.ref fa))
    (ok : ∀ (base : Heap) (f : Addr) (fd : FuncData), Fun K "law" "law" st f fd → FnOk prog w K mg base cx k f fd [p] sp) :
    ∃ fd : FuncData, (∀ (s : Shared) (u : Value), BindsTo s fd ⟨[u], []⟩ [(p, u)]) ∧ ∀ base : Heap, K.In base → base.Ns mainGlobals mg → FnOk prog w K mg base cx k fa fd [p] sp := by
  obtain ⟨f, fd, h1, h2, h3⟩ := L.ex
  have e : f = fa := by
    have := h1.symm.trans hfa
    injection this with e
    injection e
  subst e
  exact ⟨fd, fun s u => .of_eq (h3 u), fun base _ _ => ok base f fd h2⟩
/-- what is promised of a law: True, whatever stands -/
def spLaw (K : PySem.W.Frag) : Sp := fun vs H Q _ => ∃ (a : Addr) (ns : List Int), vs = [.ref a] ∧ SqL K H a (ns.map V.int) ∧ ns.length ≤ 63 ∧ ∀ H', Q (.bl true) H'
theorem law_walk {l : PySem.W.OpenLaw} {q : Program} {loose : List Str} {XP : (Str → Option Value) → Heap → Prop} {YP : World → Heap → Prop} {d : DefRec} {K : Params → PySem.W.Frag} {cx : CXT} {k : Nat} {p : Str} (hr : Room k callerA) (hn : l.most = some 63) (hdf : d.params.defaults = [])
    (hY : ∀ (w : World) (h : Heap), YP w h → (K w.params).In h) (hcx : ∀ (H : Hp) (s : Shared) (e : Value) (s' : Shared), cx [] H s (fun _ _ _ => False) e s' → False)
    (F : ∀ (w : World) (mg : Str → Option Value) (fa : Addr) (h : Heap), (K w.params).In h → h.Ns mainGlobals mg → mg d.name = some (.ref fa) →
      ∃ fd : FuncData, (∀ (s : Shared) (u : Value), BindsTo s fd ⟨[u], []⟩ [(p, u)]) ∧ ∀ base : Heap, (K w.params).In base → base.Ns mainGlobals mg → FnOk l.prog w (K w.params) mg base cx k fa fd [p] (spLaw (K w.params))) :
    PySem.W.WalkO q loose XP YP l.row.toRowW d [] (fun f vs => PySem.call f vs) :=
  L2.walk_of (n := 63) (k := k) (x := p) (CX := fun _ => cx) (sp := fun w => spLaw (K w.params)) hn (by decide) hdf hr hY F (fun _ _ a ns hl _ hS => ⟨a, ns, rfl, hS, hl, fun _ => rfl⟩) fun _ H s e s' z => hcx H s e s' z

/-! ## isinstance of flat values and bool, int, str -/
def isBlV : V → Bool
  | .bl _ => true
  | _ => false
def isIntV : V → Bool
  | .bl _ => true
  | .int _ => true
  | _ => false
def isStrV : V → Bool
  | .str _ => true
  | _ => false
theorem scal_ii {a b : Int} : scal (.int a) (.int b) = true := rfl
theorem scal_bb {a b : Bool} : scal (.bl a) (.bl b) = true := rfl
theorem scal_ss {a b : Str} : scal (.str a) (.str b) = true := rfl
theorem scal_sb {a : Str} {b : Bool} : scal (.str a) (.bl b) = true := rfl
theorem scal_bs {a : Str} {b : Bool} : scal (.bl b) (.str a) = true := rfl
theorem flat_s {z : Str} : flatV (.str z) = true := rfl
theorem flat_i {z : Int} : flatV (.int z) = true := rfl
theorem flat_b {z : Bool} : flatV (.bl z) = true := rfl
theorem flat_n : flatV .non = true := rfl
def rIsF (n : String) (f : V → Bool) : List V → Hp → VK → Prop := fun xs H Q => ∃ x, xs = [x, .ty n] ∧ flatV x = true ∧ Q (.bl (f x)) H
theorem call_isF {X : Cx} {n : String} {f : V → Bool} (hn : kitB "NoneType" n = some (f .non)) (hb : ∀ b, kitB "bool" n = some (f (.bl b))) (hi : ∀ i, kitB "int" n = some (f (.int i))) (hs : ∀ z, kitB "str" n = some (f (.str z))) :
    CallR X (.builtin "isinstance") (rIsF n f) := by
  intro pins s σ H xs us Q I r h
  obtain ⟨x, rfl, fx, q⟩ := h
  refine call_isi pins s σ H _ us Q I r ?_
  cases x with
  | non => exact ⟨_, _, _, _, _, rfl, .ty n, .base (.non), kit_ty hn, q⟩
  | bl b => exact ⟨_, _, _, _, _, rfl, .ty n, .base (.bl b), kit_ty (hb b), q⟩
  | int i => exact ⟨_, _, _, _, _, rfl, .ty n, .base (.int i), kit_ty (hi i), q⟩
  | str z => exact ⟨_, _, _, _, _, rfl, .ty n, .base (.str z), kit_ty (hs z), q⟩
  | byt b => cases fx
  | flt b => cases fx
  | ref a => cases fx
  | ty a => cases fx
theorem call_isBool {X : Cx} : CallR X (.builtin "isinstance") (rIsF "bool" isBlV) :=
  call_isF (by decide +kernel) (fun _ => (by decide +kernel : kitB "bool" "bool" = some true)) (fun _ => (by decide +kernel : kitB "int" "bool" = some false)) fun _ => (by decide +kernel : kitB "str" "bool" = some false)
theorem call_isInt {X : Cx} : CallR X (.builtin "isinstance") (rIsF "int" isIntV) :=
  call_isF (by decide +kernel) (fun _ => (by decide +kernel : kitB "bool" "int" = some true)) (fun _ => (by decide +kernel : kitB "int" "int" = some true)) fun _ => (by decide +kernel : kitB "str" "int" = some false)

theorem Same.new {H : Hp} {p : Addr} {o : HO} (h : H p = none) : Same H (upd H p o) := fun b u e => by
  rw [upd_ne (ne_of_none e h)]
  exact e
/-- a store to what H does not know -/
theorem Same.mut {H H' : Hp} {p : Addr} {o : HO} (s : Same H H') (h : H p = none) : Same H (upd H' p o) := fun b u e => by
  rw [upd_ne (ne_of_none e h)]
  exact s b u e
theorem Same.seqT {K : PySem.W.Frag} {H H' : Hp} {a : Addr} {xs : List V} (e : Same H H') (h : SqT K H a xs) : SqT K H' a xs := by
  rcases h with (h | ⟨o, h⟩) | h
  · exact .inl (.inl (e _ _ h))
  · exact .inl (.inr ⟨o, e _ _ h⟩)
  · exact .inr h
/-- [..] == [] of an empty list -/
theorem ne_empty {K : PySem.W.Frag} {H : Hp} {a b : Addr} {Q : VK} (ha : SqL K H a []) (hb : SqL K H b []) (q : Q (.bl false) H) : rNeD K (.ref a) (.ref b) H Q :=
  ⟨.list [], .list [], .lst ha .nil, .lst hb .nil, by decide +kernel, by decide +kernel, q⟩

/-! ## one's own short ways -/
abbrev St : Type := L2.St
theorem exw {α : Type} {P : α → Prop} {a : α} (h : P a) : ∃ x, P x := ⟨a, h⟩
/-- for over a text that the body leaves as it is -/
theorem for_str {x : Str} {g : TG} {tb : TS} {D : Ends} {σ : St} {H : Hp} (Pv : Nat → St → Hp → Prop) (h0 : Pv 0 σ H)
    (hs : ∀ i c σ H, x.cps[i]? = some c → Pv i σ H → g (.str ⟨#[c]⟩) σ H fun σ2 H2 => tb { D with nx := Pv (i + 1), ct := Pv (i + 1), bk := D.nx } σ2 H2) (hd : ∀ σ H, Pv x.cps.size σ H → D.nx σ H) :
    ∃ W : Nat → Nat → St → Hp → Prop, (∃ m, W 0 m σ H) ∧ ∀ i m σ H, W i m σ H →
      ((Its x).stop i H ∧ D.nx σ H) ∨ ((Its x).go i H ∧ ∃ N : St → Hp → Prop, (∀ σ' H', N σ' H' → ∃ m', m' < m ∧ W (i + 1) m' σ' H') ∧ ∀ v H', (Its x).yld i H v H' → g v σ H' fun σ2 H2 => tb { D with nx := N, ct := N, bk := D.nx } σ2 H2) := by
  refine ⟨fun i m σ H => m = x.cps.size - i ∧ i ≤ x.cps.size ∧ Pv i σ H, ⟨x.cps.size, by simp, Nat.zero_le _, h0⟩, ?_⟩
  rintro i m σ H ⟨rfl, hi, p⟩
  by_cases hlt : i < x.cps.size
  · refine .inr ⟨hlt, Pv (i + 1), fun σ' H' p' => ⟨x.cps.size - (i + 1), by omega, rfl, hlt, p'⟩, fun v H' y => ?_⟩
    obtain ⟨e, c, hc, y⟩ := y
    subst e y
    exact hs i c σ _ hc p
  · have e : i = x.cps.size := by omega
    subst e
    exact .inl ⟨Nat.le_refl _, hd σ H p⟩
theorem gcons_eq {t : TG} {u : TGs} {v : V} {r : List V} {σ : L2.St} {H : Hp} {Q : L2.St → Hp → Prop} : gCons t u (v :: r) σ H Q ↔ t v σ H fun σ' H' => u r σ' H' Q :=
  ⟨fun ⟨_, _, e, q⟩ => by cases e; exact q, fun q => ⟨v, r, rfl, q⟩⟩
theorem gnil_eq {σ : L2.St} {H : Hp} {Q : L2.St → Hp → Prop} : gNil [] σ H Q ↔ Q σ H := ⟨fun ⟨_, q⟩ => q, fun q => ⟨rfl, q⟩⟩
theorem cxOf_K {CX : CXT} {P : Program} {w : World} {K : PySem.W.Frag} {mg : Str → Option Value} {base : Heap} {N : List Str} {q : Str} {sc : Scope} {f : Addr} {cd : Value} {A : Around} {outer : List Env} {s : Shared} {H : Hp} {E : XK} :
    (cxOf CX P w K mg base N q sc f cd A outer s H E).K = K := rfl
end Ru

set_option Elab.async false
set_option linter.all false
set_option maxRecDepth 100000
set_option maxHeartbeats 2000000
/-! objects: methods by the receiver's class, tuple(d.keys()), xs != [] of any list -/
namespace Ru
open PySem PySem.Spec PyProof.Rows L2
abbrev St' : Type := L2.St

/-! ## methods by class -/
structure DispAt (P : Program) (w : World) (K : PySem.W.Frag) (mg : Str → Option Value) (base : Heap) (cx : CXT) (T : Addr → Prop) (m : Str) (k : Nat) (ps : List Str) (sp : Addr → Sp) : Prop where
  ex : ∀ C, T C → ∃ f fd, Cls K C ∧ Meth K C m f ∧ Binds K fd ps [] ∧ FnOk P w K mg base cx k f fd ps (sp C)
theorem DispAt.mono {P : Program} {w : World} {K : PySem.W.Frag} {mg : Str → Option Value} {base : Heap} {cx : CXT} {T : Addr → Prop} {m : Str} {j k : Nat} {ps : List Str} {sp : Addr → Sp} (D : DispAt P w K mg base cx T m j ps sp) (h : j ≤ k) : DispAt P w K mg base cx T m k ps sp :=
  ⟨fun C t => let ⟨f, fd, h1, h2, h3, h4⟩ := D.ex C t; ⟨f, fd, h1, h2, h3, h4.mono h⟩⟩
theorem DispAt.imp {P : Program} {w : World} {K : PySem.W.Frag} {mg : Str → Option Value} {base : Heap} {cx : CXT} {T : Addr → Prop} {m : Str} {k : Nat} {ps : List Str} {sp sp' : Addr → Sp} (D : DispAt P w K mg base cx T m k ps sp) (h : ∀ C vs H Q E, T C → sp' C vs H Q E → sp C vs H Q E) : DispAt P w K mg base cx T m k ps sp' :=
  ⟨fun C t => let ⟨f, fd, h1, h2, h3, h4⟩ := D.ex C t; ⟨f, fd, h1, h2, h3, h4.imp fun vs H Q E => h C vs H Q E t⟩⟩
/-- o.m(..), o an instance of one of the classes T -/
def tMethD (T : Addr → Prop) (m : Str) (sp : Addr → Sp) (E : XK) (ta : TE) (t : TA) : TE := fun σ H Q => ta σ H fun x H1 => ∃ a C dx fs, x = .ref a ∧ H1 a = some (.ins C dx fs) ∧ T C ∧ fs.lookup m = none ∧
  t σ H1 fun vs H2 => sp C (x :: vs) H2 Q E
section
variable {X : Cx} {cx : CXT} {j k : Nat} {ps : List Str} {sp : Addr → Sp} {E : XK} {T : Addr → Prop} {m : Str} {p pos apos : Pos} {e o : Expr} {es : List Expr} {ta : TE} {t : TA}
theorem pe_methD {pl : Sem Bool} (D : DispAt X.prog X.w X.K X.mg X.base cx T m k ps sp) (hr : Room j X.A) (hx : Passes cx X E) (he : PE X o ta) (ha : PA X (e :: es) t) (hj : k ≤ j := by decide)
    (hst : starEach (e :: es) X.env = (false, eval e X.env) :: starEach es X.env := by rfl) (hpl : (backTo pos (starEach es X.env)).any (·.1) = false := by rfl)
    (ht : eval (.Call (.Attribute o m apos) (e :: es) [] pos) X.env = (do
      let ov ← eval o X.env
      standAt apos.atName
      let (f, first) ← holding [ov] (getMethod ov m pl)
      callWith pos f first (backTo pos (starEach (e :: es) X.env)) (backToKw pos (keywordEach [] X.env))) := by rfl) :
    PE X (.Call (.Attribute o m apos) (e :: es) [] pos) (tMethD T m sp E ta t) := by
  refine ⟨fun pins s σ H Q I h => ?_⟩
  refine PySem.W.methodCall_KW (pl := pl) (thn (he.run pins s σ H _ I h) fun u s1 ⟨x, H1, I1, rx, a, C, dx, fs, ex, ea, tc, l, q⟩ => ?_) ht
  subst ex
  obtain rfl : u = Value.ref a := rx
  obtain ⟨f, fd, c, hm, hb, F⟩ := D.ex C tc
  refine getmeth_ok I1 ea c hm l ?_
  refine PySem.W.callWith_K (first := [.ref a]) (h₀ := X.base) I.ok.mod.kin hm.kp (thn (ha.run pos pins s1 σ H1 _ I1 q) fun us s2 ⟨vs, H2, I2, r, q2⟩ => ⟨I2.kIn, ?_⟩) hst hpl
  exact run_fn (us := .ref a :: us) (vs := .ref a :: vs) (dvs := []) (ds := []) F (hr.mono hj) hb .nil hx I2 (.cons rfl r) (by rw [List.append_nil]; exact q2)
theorem pe_methD0 {pl : Sem Bool} (D : DispAt X.prog X.w X.K X.mg X.base cx T m k ps sp) (hr : Room j X.A) (hx : Passes cx X E) (he : PE X o ta) (hj : k ≤ j := by decide)
    (ht : eval (.Call (.Attribute o m apos) [] [] pos) X.env = (do
      let ov ← eval o X.env
      standAt apos.atName
      let (f, first) ← holding [ov] (getMethod ov m pl)
      callWith pos f first (backTo pos (starEach [] X.env)) (backToKw pos (keywordEach [] X.env))) := by rfl) :
    PE X (.Call (.Attribute o m apos) [] [] pos) (tMethD T m sp E ta tNil) := by
  refine ⟨fun pins s σ H Q I h => ?_⟩
  refine PySem.W.methodCall_KW (pl := pl) (thn (he.run pins s σ H _ I h) fun u s1 ⟨x, H1, I1, rx, a, C, dx, fs, ex, ea, tc, l, q⟩ => ?_) ht
  subst ex
  obtain rfl : u = Value.ref a := rx
  obtain ⟨f, fd, c, hm, hb, F⟩ := D.ex C tc
  refine getmeth_ok I1 ea c hm l ?_
  refine PySem.W.callWith_K0 (first := [.ref a]) I1.kIn hm.kp ?_
  exact run_fn (us := [.ref a]) (vs := [.ref a]) (dvs := []) (ds := []) F (hr.mono hj) hb .nil hx I1 (.cons rfl .nil) q
end
/-- a method of the class at C, as the text has it -/
structure MethAt (K : PySem.W.Frag) (C : Addr) (m qual : Str) (st : Stmt) (ps : List Str) : Prop where
  ex : ∃ f fd, Meth K C m f ∧ Fun K m qual st f fd ∧ Binds K fd ps []
theorem methAt_mk {K : PySem.W.Frag} {C : Addr} {m qual : Str} {st : Stmt} {ps : List Str} {f : Addr} {oc : Value} {od an : Option Addr} {osl : Array (Option Value)} {kV doc pm cdv ct : Value}
    (a : PySem.W.findIn K (.ref C) m = some (some (.ref f))) (i : PySem.W.isFn K (.ref f) = true) (l : K.lookup f = some ⟨oc, od, .func (PySem.W.fnOf m qual (defArgs st) (defBody st) (defScope st) .none kV doc pm an cdv ct), osl⟩)
    (c : PySem.W.codeIn K cdv qual = true) (k : PySem.W.keepIn K (.ref f) = true)
    (b : ∀ us : List Value, us.length = ps.length → bindArgs (PySem.W.fnOf m qual (defArgs st) (defBody st) (defScope st) .none kV doc pm an cdv ct) ⟨us, []⟩ = pure (ps.zip us)) : MethAt K C m qual st ps :=
  ⟨f, _, ⟨a, i, k⟩, fun_mk l c k, .all b⟩
theorem methAt_ok {P : Program} {w : World} {K : PySem.W.Frag} {mg : Str → Option Value} {base : Heap} {C : Addr} {m qual : Str} {st : Stmt} {N ps : List Str} {k : Nat} {sp : Sp} (c : Cls K C) (D : MethAt K C m qual st ps) (S : FnScope N ps (defScope st)) (len : ∀ vs H Q E, sp vs H Q E → vs.length = ps.length)
    (hbody : ∀ (f : Addr) (cdv : Value) (A : Around) (outer : List Env) (s : Shared) (H : Hp) (vs : List V) (Q : VK) (E : XK), Room k (A.deeper (envOfC qual (defScope st) s.heap.objs.size f cdv)) → sp vs H Q E →
      ∃ t, PSs (cxOf CX0 P w K mg base N qual (defScope st) f cdv A outer s H E).nox (defBody st) t ∧ t { nx := fun _ H' => Q .non H', rt := Q } (start N vs) H) :
    ∃ f fd, Cls K C ∧ Meth K C m f ∧ Binds K fd ps [] ∧ FnOk P w K mg base CX0 (k + 1) f fd ps sp := by
  obtain ⟨f, fd, h1, h2, h3⟩ := D.ex
  exact ⟨f, fd, c, h1, h3, h2.ok S len (hbody f)⟩
/-- what is asked of an own class -/
structure ClsAt (K : PySem.W.Frag) (mg : Str → Option Value) (x : Str) (C : Addr) : Prop where
  mg_ : mg x = some (.ref C)
  cl : Cls K C
  ha : PySem.W.findIn K (.ref C) "__class__" = some (some (.builtin "object.__class__"))
  hn : PySem.W.specialIn K (.builtin "object.__class__") "__get__" = some (some (.builtin "getset_descriptor.__get__"))
  htk : PySem.W.takesIn K (.builtin "object.__class__") = some true
  hm : PySem.W.mroIn K C (.type "object") = some true
  mkg : PySem.W.makesIn K C = true
  kp : PySem.W.keepIn K (.ref C) = true
theorem clsAt_mk {K : PySem.W.Frag} {mg : Str → Option Value} {h : Heap} {x : Str} {C : Addr} (X : K.In h) (G : h.Ns mainGlobals mg) (a : PySem.W.nsIn K mainGlobals x = some (some (.ref C)))
    (pg : PySem.W.plainGet K C Str.empty = true) (hd : PySem.W.hasDictIn K C = true) (po : PySem.W.plainOver K C = true) (sa : PySem.W.findIn K (.ref C) "__setattr__" = some (some (.builtin "object.__setattr__")))
    (ha : PySem.W.findIn K (.ref C) "__class__" = some (some (.builtin "object.__class__"))) (hn : PySem.W.specialIn K (.builtin "object.__class__") "__get__" = some (some (.builtin "getset_descriptor.__get__")))
    (htk : PySem.W.takesIn K (.builtin "object.__class__") = some true) (hm : PySem.W.mroIn K C (.type "object") = some true) (mk : PySem.W.makesIn K C = true) (kp : PySem.W.keepIn K (.ref C) = true) : ClsAt K mg x C :=
  ⟨PySem.W.mg_of X G a, ⟨pg, hd, po, sa⟩, ha, hn, htk, hm, mk, kp⟩
/-- a new instance of the class called x -/
structure MakAt (P : Program) (w : World) (K : PySem.W.Frag) (mg : Str → Option Value) (base : Heap) (cx : CXT) (x : Str) (C : Addr) (k : Nat) (ps : List Str) (sp : Sp) : Prop where
  ex : ∃ f fd, mg x = some (.ref C) ∧ Mk K C f ∧ Binds K fd ps [] ∧ FnOk P w K mg base cx k f fd ps sp
theorem makAt_of {P : Program} {w : World} {K : PySem.W.Frag} {mg : Str → Option Value} {base : Heap} {cx : CXT} {x : Str} {C : Addr} {k : Nat} {ps : List Str} {sp : Sp} (c : ClsAt K mg x C)
    (h : ∃ f fd, Cls K C ∧ Meth K C "__init__" f ∧ Binds K fd ps [] ∧ FnOk P w K mg base cx k f fd ps sp) : MakAt P w K mg base cx x C k ps sp := by
  obtain ⟨f, fd, _, h1, h2, h3⟩ := h
  exact ⟨f, fd, c.mg_, ⟨c.mkg, h1.at_, h1.fn, c.kp⟩, h2, h3⟩
section
variable {X : Cx} {cx : CXT} {j k : Nat} {ps : List Str} {sp : Sp} {E : XK} {x : Str} {C : Addr} {p pos : Pos} {e : Expr} {es : List Expr} {t : TA}
theorem pe_makeF (M : MakAt X.prog X.w X.K X.mg X.base cx x C k ps sp) (hr : Room j X.A) (hx : Passes cx X E) (ha : PA X (e :: es) t) (hj : k + 1 ≤ j := by decide) (hg : Gl X x := by rfl)
    (hdb : (x == ("__debug__" : Str)) = false := by decide) (he : starEach (e :: es) X.env = (false, eval e X.env) :: starEach es X.env := by rfl) (hpl : (backTo pos (starEach es X.env)).any (·.1) = false := by rfl) :
    PE X (.Call (.Name x p) (e :: es) [] pos) (tMake C sp [] E t) := by
  obtain ⟨f, fd, h1, h2, h3, h4⟩ := M.ex
  exact pe_make h2 h4 (hr.mono hj) hg h1 h3 .nil hx ha hdb he hpl
end

/-! ## isinstance(x, C), C one of one's own classes -/
theorem pe_cls {X : Cx} {x : Str} {C : Addr} {pos : Pos} (h : ClsAt X.K X.mg x C) (hg : Gl X x := by rfl) (hd : (x == ("__debug__" : Str)) = false := by decide) : PE X (.Name x pos) (tC (.ref C)) := pe_glob hg h.mg_ rfl hd
/-- the answer, by the receiver's class -/
def rIsO (K : PySem.W.Frag) (D : Addr) (T : Addr → Bool → Prop) : List V → Hp → VK → Prop := fun xs H Q => ∃ a C dx fs b, xs = [.ref a, .ref D] ∧ H a = some (.ins C dx fs) ∧ T C b ∧ Q (.bl b) H
/-- for each class C that may come: what it says, and isinstance's answer -/
def IsT (K : PySem.W.Frag) (D : Addr) (T : Addr → Bool → Prop) : Prop := ∀ C b, T C b → (∃ mg x, ClsAt K mg x C) ∧ PySem.W.kitOne K (.ref C) (.ref D) = some b
theorem call_isO {X : Cx} {D : Addr} {T : Addr → Bool → Prop} (h : IsT X.K D T) : CallR X (.builtin "isinstance") (rIsO X.K D T) := by
  intro pins s σ H xs us Q I r hq
  obtain ⟨a, C, dx, fs, b, rfl, ha, t, q⟩ := hq
  obtain ⟨⟨mg, x, c⟩, e⟩ := h C b t
  obtain ⟨u, w', rfl, ru, rw'⟩ := vals2 r
  cases rw'
  exact isinst_ok I ru (TyOf.ins ha c.cl c.ha c.hn c.htk c.hm) e fun tk => ⟨.bl b, H, I.tok _, rfl, q⟩

/-! ## tuple(d.keys()) -/
section
open PySem.W (KdlSrc kdu_collect KdlKeysView)
variable {prog : Program} {w : World} {A : Around} {E : Value → Shared → Prop} {s : Shared} {T : String} {r d : Addr} {n : Nat} {P : Nat → Value → Prop} {OK : Heap → Prop}
theorem code_tuple_new_kdl {Q₁ : Value → Shared → Prop} (K : KdlSrc prog w T r d n P OK) (hh : A.handled = none) (hok : OK s.heap) (hn : n ≤ sizeLine)
    (h : ∀ (h' : Heap) (tk : Nat) (acc : Array Value), (∀ b o, s.heap.get? b = some o → h'.get? b = some o) → ItemsOf P acc n →
      Q₁ (.ref h'.objs.size) { s with heap := h'.push { cls := .type "tuple", data := .seq acc }, toks := tk }) :
    codeAny (model prog w) A (.call (.builtin "tuple.__new__") ⟨[.type "tuple", .ref r], []⟩) (wants Q₁ E) s := by
  refine codeAny_of_tree ?_
  show wpAny _ A.in1 (do checkBuiltinCall "tuple.__new__" ⟨[.type "tuple", .ref r], []⟩; again (.builtin "tuple.__new__" ⟨[.type "tuple", .ref r], []⟩)) _ _ s
  refine wpAny_bind (wpAny_of_eq (F.newCall_tuple_1 _) (wpAny_pure ⟨plainId_quiet F.plain_tuple_new _, codeAny_builtin F.entry_tuple_new ?_⟩))
  rw [Around.under_plainId F.plain_tuple_new _]
  have hsub := sub_tuple_self
  have hinit := init_tuple_lookup
  have hmh := madeHere_tuple
  have hTI : s.TypeIs (.ref r) T := K.type s hok
  have hh1 : A.in1.handled = none := hh
  have hnt := K.notTuple
  wp_walk using wpAny_typeOf hTI, kdu_collect (A := A.in1) K hh1 hok hn
  intro h' tk acc hk hacc
  show wpAny _ _ (Builtin.Tuple.tupleExact acc.toList.toArray >>= fun v => ret v) _ _ _
  unfold Builtin.Tuple.tupleExact
  refine wpAny_bind (wpAny_newObj_type ?_ (by show acc.toList.toArray.size ≤ sizeLine; simp only [Array.toArray_toList]; rw [hacc.1]; exact hn))
  refine wpAny_pure ?_
  have e : acc.toList.toArray = acc := by simp
  rw [e]
  exact h h' tk acc hk hacc
theorem call_tuple_kdl {Q : Value → Shared → Prop} (K : KdlSrc prog w T r d n P OK) (hh : A.handled = none) (hok : OK s.heap) (hn : n ≤ sizeLine)
    (hQ : ∀ (h' : Heap) (tk : Nat) (acc : Array Value), (∀ b o, s.heap.get? b = some o → h'.get? b = some o) → ItemsOf P acc n →
      Q (.ref h'.objs.size) { s with heap := h'.push { cls := .type "tuple", data := .seq acc }, toks := tk }) :
    wpAny (model prog w) A (call (.type "tuple") [.ref r]) Q E s := by
  refine callType_codes (Q₁ := fun obj s₁ => s₁.TypeIs obj "tuple" ∧ Q obj s₁) F.called_tuple (F.typeCall_tuple_1 _) F.entry_object_init
    (code_tuple_new_kdl (A := A.in1) K hh hok hn fun h' tk acc hk hacc => ⟨⟨_, Heap.get?_push_size _ rfl, rfl⟩, hQ h' tk acc hk hacc⟩) fun obj s₁ h₁ => ?_
  exact ⟨h₁.1, F.args_object_init_2 obj _, object_init_meets F.called_tuple.init.lookup F.called_tuple.made (by decide) prog w A.in1 _ s₁ ⟨h₁.1, rfl, h₁.2⟩⟩
end
def tTupKeys (td : TE) : TE := fun σ H Q => td σ H fun x H1 => ∃ d kvs, x = .ref d ∧ H1 d = some (.dK kvs) ∧ ∀ q, H1 q = none → Q (.ref q) (upd H1 q (.tup (kvs.map fun kv => kV kv.1)))
theorem pe_tupKeys {X : Cx} {e : Expr} {td : TE} {p pos apos cpos : Pos} (hm : X.mg "tuple" = none) (he : PE X e td) (hc : X.calm = true := by rfl) (hg : Gl X "tuple" := by rfl) (hbase : attributeBase e "keys" X.env (eval e X.env) = eval e X.env := by rfl) (hline : (apos.endLine == cpos.line) = true := by rfl)
    (na : starEach [.Call (.Attribute e "keys" apos) [] [] cpos] X.env = (false, eval (.Call (.Attribute e "keys" apos) [] [] cpos) X.env) :: starEach [] X.env := by rfl) :
    PE X (.Call (.Name "tuple" p) [.Call (.Attribute e "keys" apos) [] [] cpos] [] pos) (tTupKeys td) := by
  refine ⟨fun pins s σ H Q I h => ?_⟩
  refine Call_ (ld_blt I hg hm boot_tuple (PyProof.Rows.callWith_type1 (args_cons ?_ na) na))
  refine wpAny_Call_method (T := "dict") (id := "dict.keys") hbase rfl hline F.plainAttrs_dict F.slot_dict_keys F.type_dict_keys (thn (he.run pins s σ H _ I h) fun u s1 ⟨x, H1, I1, rx, d, kvs, ex, hd, q⟩ => ?_)
  subst ex
  obtain rfl : u = Value.ref d := rx
  obtain ⟨z, lo, vs, rk, hdt⟩ := (show ObjOk X.prog X.w H1 s1.heap d (.dK kvs) from I1.hok d _ hd)
  obtain ⟨ep, hat⟩ := hdt.dictAt
  have hl : kvs.length = vs.length := Paired.length rk
  refine ⟨hat.dictOf.typeIs, hat.dictOf.mapOf.noDict, ?_⟩
  have k2 : ∀ b o, s1.heap.get? b = some o → (s1.heap.push { cls := .type "dict_keys", data := .fields #[.ref d] }).get? b = some o := fun b ob q => Heap.get?_push_of_some _ q
  have I2 : Inv X pins σ H1 { s1 with heap := s1.heap.push { cls := .type "dict_keys", data := .fields #[.ref d] } } := I1.kept (t' := s1.toks) k2
  have view : PySem.W.KdlKeysView (s1.heap.push { cls := .type "dict_keys", data := .fields #[.ref d] }) s1.heap.objs.size d := ⟨_, Heap.get?_push_size _ rfl, rfl, rfl⟩
  have fin : wpAny (model X.prog X.w) X.A (call (.type "tuple") [.ref s1.heap.objs.size]) (EP X pins σ Q) X.xe { s1 with heap := s1.heap.push { cls := .type "dict_keys", data := .fields #[.ref d] } } := by
    refine call_tuple_kdl (PySem.W.kdl_keys (knd := mixKind X.prog X.w) (kvs := vs) (ep := ep) (d := d)) (I1.ok.hd hc) ⟨view, hat.push _⟩ (by rw [← hl]; exact z) fun h' tk acc hk hacc => ?_
    have I3 : Inv X pins σ H1 { s1 with heap := h', toks := tk } := I2.kept (h' := h') (t' := tk) hk
    have el : acc.toList.length = acc.size := by simp
    have rv : Vals (kvs.map fun kv => kV kv.1) acc.toList := by
      refine vals_of_at (by rw [List.length_map, el, hacc.1, hl]) fun j x w h1 h2 => ?_
      obtain ⟨k, y, hky, hi⟩ := hacc.2 j w (by rw [← Array.getElem?_toList]; exact h2)
      have e1 : (kvs.map (·.1))[j]? = some k := by
        rw [KV.keys rk, List.getElem?_map, hky] <;> rfl
      have e2 : (kvs.map fun kv => kV kv.1)[j]? = some (kV k) := by
        have e3 : (kvs.map fun kv => kV kv.1) = (kvs.map (·.1)).map kV := by rw [List.map_map] <;> rfl
        rw [e3, List.getElem?_map, e1] <;> rfl
      rw [e2] at h1
      cases h1
      exact keyIs_rel hi
    have hz : (kvs.map fun kv => kV kv.1).length ≤ sizeLine := by rw [List.length_map]; exact z
    have I4 : Inv X pins σ (upd H1 h'.objs.size (.tup (kvs.map fun kv => kV kv.1))) { s1 with heap := h'.push { cls := .type "tuple", data := .seq acc }, toks := tk } := by
      refine I3.laid (t' := tk) (fun b o e => Heap.get?_push_of_some _ e) (Nat.le_refl _) (show ObjOk X.prog X.w _ _ _ (.tup _) from ⟨hz, acc.toList, rv, ?_⟩)
      have e5 : acc.toList.toArray = acc := by simp
      rw [e5]
      exact ⟨_, Heap.get?_push_size _ rfl, rfl, _, rfl⟩
    exact ⟨.ref h'.objs.size, _, I4, rfl, q _ (I3.hok.fresh (Nat.le_refl _))⟩
  show wpAny _ _ (callWith cpos (.builtin "dict.keys") [.ref d] [] []) _ X.xe s1
  exact method_meetsIn F.slot_dict_keys F.entry_dict_keys rfl (PySem.evalArgs_none ⟨rfl, hat.dictOf.typeIs, F.args_dict_keys_1 _, _, PySem.W.kdl_meets_keys (mixKind X.prog X.w) d lo, ⟨vs, hat.dictOf⟩, args_nil fin⟩)

/-! ## xs != [] of any list -/
def rNeE (K : PySem.W.Frag) : R2 := fun x y H Q => ∃ a b xs, x = .ref a ∧ y = .ref b ∧ SqL K H a xs ∧ SqL K H b [] ∧ Q (.bl (!xs.isEmpty)) H
theorem op_neE {X : Cx} (hu : X.A.units < cLine) : OpR X (compareOp .NotEq) (rNeE X.K) := by
  intro pins s σ H x y v u Q I rx ry h
  obtain ⟨a, b, xs, rfl, rfl, ha, hb, q⟩ := h
  obtain rfl : v = .ref a := rx
  obtain rfl : u = .ref b := ry
  obtain ⟨its, r1, p1, z1⟩ := I.list ha
  obtain ⟨jts, r2, p2, z2⟩ := I.list hb
  cases r2
  cases r1 with
  | nil => exact SeqAt.RcNeAt.lists (e := fun _ => true) p1.isList p2.isList rfl hu (fun j h1 _ => absurd h1 (by simp)) X.prog X.w _ _ ⟨.bl _, H, I, rfl, q⟩
  | cons r t => exact SeqAt.RcNeAt.lists_lengths p1.isList p2.isList (by simp) hu X.prog X.w _ _ ⟨.bl _, H, I, rfl, q⟩
/-! ## what never changes: tuples, instances of the classes T -/
def ImmO (T : Addr → Prop) : HO → Prop
  | .tup _ => True
  | .ins C _ _ => T C
  | _ => False
def Imm (T : Addr → Prop) (H H' : Hp) : Prop := ∀ b o, H b = some o → ImmO T o → H' b = some o
theorem Same.imm {T : Addr → Prop} {H H' : Hp} (s : Same H H') : Imm T H H' := fun b o e _ => s b o e
theorem Imm.refl {T : Addr → Prop} (H : Hp) : Imm T H H := fun _ _ e _ => e
theorem Imm.trans {T : Addr → Prop} {H H1 H2 : Hp} (a : Imm T H H1) (b : Imm T H1 H2) : Imm T H H2 := fun c o e i => b c o (a c o e i) i
/-- a store to what may change -/
theorem Imm.mut {T : Addr → Prop} {H : Hp} {p : Addr} {o u : HO} (h : H p = some u) (n : ¬ ImmO T u) : Imm T H (upd H p o) := fun b v e i => by
  rw [upd_ne]
  · exact e
  · rintro rfl
    rw [h] at e
    cases e
    exact n i
theorem Imm.new {T : Addr → Prop} {H : Hp} {p : Addr} {o : HO} (h : H p = none) : Imm T H (upd H p o) := Same.imm (Same.new h)
/-- all but what stands at p -/
def But (p : Addr) (H H' : Hp) : Prop := ∀ b o, H b = some o → b ≠ p → H' b = some o
theorem Same.but {p : Addr} {H H' : Hp} (s : Same H H') : But p H H' := fun b o e _ => s b o e
theorem But.trans {p : Addr} {H H1 H2 : Hp} (a : But p H H1) (b : But p H1 H2) : But p H H2 := fun c o e n => b c o (a c o e n) n
theorem But.upd {p : Addr} {H : Hp} {o : HO} : But p H (upd H p o) := fun b u e n => by rw [upd_ne n]; exact e
theorem But.imm {T : Addr → Prop} {p : Addr} {u : HO} {H H' : Hp} (s : But p H H') (h : H p = some u) (n : ¬ ImmO T u) : Imm T H H' := fun b o e i => s b o e (by
  rintro rfl
  rw [h] at e
  cases e
  exact n i)
theorem But.same {p : Addr} {H0 H H' : Hp} (s0 : Same H0 H) (s : But p H H') (h : H0 p = none) : Same H0 H' := fun b o e => s b o (s0 b o e) (ne_of_none e h)

/-! ## comprehensions: the list so far -/
theorem lc_push {H1 H4 : Hp} {D : Addr} {L : List V} {i : Nat} {y : V} (s : Same H1 H4) (nD : H1 D = none) (h : H4 D = some (.lst (L.take i))) (hy : L[i]? = some y) (hl : L.length ≤ 1000000) :
    ∃ acc, H4 D = some (.lst acc) ∧ acc.length < sizeLine ∧ (Same H1 (upd H4 D (.lst (acc ++ [y]))) ∧ upd H4 D (.lst (acc ++ [y])) D = some (.lst (L.take (i + 1)))) := by
  refine ⟨_, h, ?_, Same.mut s nD, ?_⟩
  · rw [List.length_take, sizeLine_eq]
    omega
  · rw [upd_same, List.take_succ, hy]
    rfl
theorem lk1 {f m : Str} {v : V} (h : (m == f) = false) : List.lookup m [(f, v)] = none := by
  simp [List.lookup, h]
theorem lk1s {f : Str} {v : V} : List.lookup f [(f, v)] = some v := by
  simp [List.lookup]
/-! ## xs == [] of any list; xs.count(y) of flat things; isinstance(t, tuple) -/
def rEqE (K : PySem.W.Frag) : R2 := fun x y H Q => ∃ a b xs, x = .ref a ∧ y = .ref b ∧ SqL K H a xs ∧ SqL K H b [] ∧ Q (.bl xs.isEmpty) H
theorem op_eqE {X : Cx} (hu : X.A.units < cLine) : OpR X (compareOp .Eq) (rEqE X.K) := by
  intro pins s σ H x y v u Q I rx ry h
  obtain ⟨a, b, xs, rfl, rfl, ha, hb, q⟩ := h
  obtain rfl : v = .ref a := rx
  obtain rfl : u = .ref b := ry
  obtain ⟨its, r1, p1, z1⟩ := I.list ha
  obtain ⟨jts, r2, p2, z2⟩ := I.list hb
  cases r2
  cases r1 with
  | nil => exact SeqAt.RcAt.lists (e := fun _ => true) p1.isList p2.isList rfl hu (fun j h1 _ => absurd h1 (by simp)) X.prog X.w _ _ ⟨.bl _, H, I, rfl, q⟩
  | cons r t => exact SeqAt.RcAt.lists_lengths p1.isList p2.isList (by simp) hu X.prog X.w _ _ ⟨.bl _, H, I, rfl, q⟩
theorem count_eqU {x : V} : ∀ {xs : List V} {us : List Value}, Vals xs us → xs.all flatV = true → us.countP (eqU x) = xs.countP fun y => eqV y x
  | _, _, .nil, _ => rfl
  | y :: xs, u :: us, .cons r t, f => by
    rw [List.all_cons, Bool.and_eq_true] at f
    rw [List.countP_cons, List.countP_cons, eqU_of r f.1, count_eqU t f.2]
def rCntF (K : PySem.W.Frag) : V → List V → Hp → VK → Prop := fun x xs H Q => ∃ (p : Addr) (ys : List V) (y : V), x = .ref p ∧ xs = [y] ∧ SqL K H p ys ∧ flatV y = true ∧ ys.all flatV = true ∧ Q (.int ((ys.countP fun z => eqV z y : Nat) : Int)) H
theorem mt_countF {X : Cx} : MtR X "list.count" (rCntF X.K) := by
  intro pins s σ H x xs v us Q I rx rxs h
  obtain ⟨p, ys, y, rfl, rfl, hs, fy, fys, q⟩ := h
  cases rx
  cases rxs with
  | cons ry rt =>
    rename_i uy ut
    cases rt
    obtain ⟨its, rv, ⟨⟨cls, dd, data, sl⟩, n, ho, hc, hdn, hd⟩, hlen⟩ := I.list hs
    simp only at hc hd
    subst hc hd
    refine call_meets PySem.F.slot_list_count ⟨_, ho, rfl⟩ PySem.F.entry_list_count (PySem.F.args_list_count_2 _ _)
      (SeqAt.list_countAt p its.toArray n dd sl uy (eqU y)) ⟨ho, fun w hw => mem_eqAt ry fy rv fys w (by simpa using hw), ?_⟩
    have ec : its.toArray.toList.countP (eqU y) = ys.countP fun z => eqV z y := by
      show its.countP (eqU y) = _
      exact count_eqU rv fys
    refine ⟨.int _, H, I.tok _, ⟨s.toks, ?_⟩, q⟩
    rw [ec]
def rIsTup (K : PySem.W.Frag) : List V → Hp → VK → Prop := fun xs H Q => ∃ a vs, xs = [.ref a, .ty "tuple"] ∧ H a = some (.tup vs) ∧ Q (.bl true) H
theorem call_isTup {X : Cx} : CallR X (.builtin "isinstance") (rIsTup X.K) := by
  intro pins s σ H xs us Q I r h
  obtain ⟨a, vs, rfl, ha, q⟩ := h
  exact call_isi pins s σ H _ us Q I r ⟨_, _, _, _, true, rfl, .ty "tuple", .base (.tup ha), kit_ty (by decide +kernel), q⟩
/-! ## slices of lists -/
theorem cutV_to (l : List V) (n : Nat) : cutV l none (some (n : Int)) = l.take n := by
  unfold cutV
  rw [HT.sIx_none, HT.sIx_nat, List.drop_zero, Nat.sub_zero]
  by_cases h : n ≤ l.length
  · rw [Nat.min_eq_left h]
  · rw [Nat.min_eq_right (by omega), List.take_of_length_le (Nat.le_refl _), List.take_of_length_le (by omega)]
theorem cutV_from (l : List V) (n : Nat) : cutV l (some (n : Int)) none = l.drop n := by
  unfold cutV
  rw [HT.sIx_none, HT.sIx_nat]
  by_cases h : n ≤ l.length
  · rw [Nat.min_eq_left h, List.take_of_length_le (by rw [List.length_drop]; omega)]
  · rw [Nat.min_eq_right (by omega), List.drop_of_length_le (Nat.le_refl _), List.drop_of_length_le (by omega)]
    simp
theorem cutV_last (l : List V) : cutV l none (some (-1)) = l.dropLast := by
  unfold cutV
  rw [HT.sIx_none, List.drop_zero, Nat.sub_zero, List.dropLast_eq_take]
  congr 1
  show (if (-1 : Int) < 0 then ((-1 : Int) + (l.length : Int)).toNat else min (-1 : Int).toNat l.length) = _
  rw [if_pos (by decide)]
  omega
theorem slL_to {K : PySem.W.Frag} {H : Hp} {a : Addr} {xs : List V} {i : Int} {Q : VK} (n : Nat) (e : i = (n : Int)) (h : SqL K H a xs) (k : ∀ p, H p = none → Q (.ref p) (upd H p (.lst (xs.take n)))) : rSlL K (.ref a) none (some i) H Q :=
  ⟨a, xs, rfl, h, fun p np => by rw [e, cutV_to]; exact k p np⟩
theorem slL_from {K : PySem.W.Frag} {H : Hp} {a : Addr} {xs : List V} {i : Int} {Q : VK} (n : Nat) (e : i = (n : Int)) (h : SqL K H a xs) (k : ∀ p, H p = none → Q (.ref p) (upd H p (.lst (xs.drop n)))) : rSlL K (.ref a) (some i) none H Q :=
  ⟨a, xs, rfl, h, fun p np => by rw [e, cutV_from]; exact k p np⟩
theorem slL_last {K : PySem.W.Frag} {H : Hp} {a : Addr} {xs : List V} {Q : VK} (h : SqL K H a xs) (k : ∀ p, H p = none → Q (.ref p) (upd H p (.lst xs.dropLast))) : rSlL K (.ref a) none (some (-1)) H Q :=
  ⟨a, xs, rfl, h, fun p np => by rw [cutV_last]; exact k p np⟩
end Ru

set_option Elab.async false
set_option linter.all false
set_option maxRecDepth 100000
set_option maxHeartbeats 2000000
/-! what is raised: defs that may raise, one's own classes of errors, a def that is asked while one is handled -/
namespace Ru
open PySem PySem.Spec PyProof.Rows L2

/-! ## defs that may raise -/
section
variable {P : Program} {w : World} {K : PySem.W.Frag} {mg : Str → Option Value} {base : Heap}
theorem fnAt_okX {x : Str} {st : Stmt} {N ps : List Str} {k : Nat} {sp : Sp} (D : DefAt K mg x st ps) (S : FnScope N ps (defScope st)) (len : ∀ vs H Q E, sp vs H Q E → vs.length = ps.length)
    (hbody : ∀ (f : Addr) (cdv : Value) (A : Around) (outer : List Env) (s : Shared) (H : Hp) (vs : List V) (Q : VK) (E : XK), Room k (A.deeper (envOfC x (defScope st) s.heap.objs.size f cdv)) → sp vs H Q E →
      ∃ t, PSs (cxOf (L2.CX P w) P w K mg base N x (defScope st) f cdv A outer s H E) (defBody st) t ∧ t { nx := fun _ H' => Q .non H', rt := Q } (start N vs) H) : FnAt P w K mg base (L2.CX P w) x (k + 1) ps sp := by
  obtain ⟨f, fd, h1, h2, h3⟩ := D.ex
  obtain ⟨oc, od, kV, doc, pm, an, cdv, ct, osl, e, lk, hcd⟩ := h2.ex
  subst e
  exact ⟨f, _, h1, h2.kp, h3, fn_of lk hcd S len fun A outer s H vs Q E hr hsp => hbody f cdv A outer s H vs Q E hr hsp⟩
theorem methAt_okX {C : Addr} {m qual : Str} {st : Stmt} {N ps : List Str} {k : Nat} {sp : Sp} (c : Cls K C) (D : MethAt K C m qual st ps) (S : FnScope N ps (defScope st)) (len : ∀ vs H Q E, sp vs H Q E → vs.length = ps.length)
    (hbody : ∀ (f : Addr) (cdv : Value) (A : Around) (outer : List Env) (s : Shared) (H : Hp) (vs : List V) (Q : VK) (E : XK), Room k (A.deeper (envOfC qual (defScope st) s.heap.objs.size f cdv)) → sp vs H Q E →
      ∃ t, PSs (cxOf (L2.CX P w) P w K mg base N qual (defScope st) f cdv A outer s H E) (defBody st) t ∧ t { nx := fun _ H' => Q .non H', rt := Q } (start N vs) H) :
    ∃ f fd, Cls K C ∧ Meth K C m f ∧ Binds K fd ps [] ∧ FnOk P w K mg base (L2.CX P w) (k + 1) f fd ps sp := by
  obtain ⟨f, fd, h1, h2, h3⟩ := D.ex
  obtain ⟨oc, od, kV, doc, pm, an, cdv, ct, osl, e, lk, hcd⟩ := h2.ex
  subst e
  exact ⟨f, _, c, h1, h3, fn_of lk hcd S len fun A outer s H vs Q E hr hsp => hbody f cdv A outer s H vs Q E hr hsp⟩
end
/-- what a callee lets out leaves the def, too -/
theorem passX {X : Cx} {E : XK} (tk : L2.Takes X fun cls d _ H => E cls d H) : Passes (L2.CX X.prog X.w) X E := L2.passes_call tk fun _ _ _ _ h => h
/-- around a try nothing is let out -/
theorem takesN {X : Cx} : L2.Takes X (fun _ _ _ _ => False) := fun _ _ x => by
  obtain ⟨_, _, _, _, _, _, _, _, _, _, _, _, _, _, _, _, z⟩ := x
  exact z.elim
section
variable {X : Cx} {W : WX} {j k : Nat} {ps : List Str} {sp : Sp} {x : Str} {p pos : Pos} {e : Expr} {es : List Expr} {t : TA}
/-- f(e, ..) within a try -/
theorem pe_callT (F : FnAt X.prog X.w X.K X.mg X.base (L2.CX X.prog X.w) x k ps sp) (hr : Room j X.A) (tk : L2.Takes X W) (ha : PA X (e :: es) t) (hj : k ≤ j := by decide) (hg : Gl X x := by rfl)
    (hdb : (x == ("__debug__" : Str)) = false := by decide) (he : starEach (e :: es) X.env = (false, eval e X.env) :: starEach es X.env := by rfl) (hpl : (backTo pos (starEach es X.env)).any (·.1) = false := by rfl) :
    PE X (.Call (.Name x p) (e :: es) [] pos) (tCallS sp (WE W) t) := by
  obtain ⟨f, fd, h1, h2, h3, h4⟩ := F.ex
  exact pe_callS h4 (hr.mono hj) hg h1 h2 h3 (fun σ => L2.passAt tk σ) ha hdb he hpl
end

/-! ## one's own classes of errors -/
/-- a class of errors called x, at C, over L, over ValueError -/
structure ExcAt (K : PySem.W.Frag) (mg : Str → Option Value) (x : Str) (C L : Addr) : Prop where
  gP : mg x = some (.ref C)
  xP : PySem.W.excIn K C [.type "ValueError", .type "Exception", .type "BaseException", .type "object"] "ValueError.__new__" = true
  kP : PySem.W.keepIn K (.ref C) = true
  is_ : ExcC K C
  tP : PySem.W.typeIn K (.ref C) = some (.type "type")
  mro : ∃ cd, PySem.W.clsIn K C = some cd ∧ cd.mro = [.ref C, .ref L, .type "ValueError", .type "Exception", .type "BaseException", .type "object"]
/-- the class over them -/
structure ErrAt (K : PySem.W.Frag) (mg : Str → Option Value) (x : Str) (L : Addr) : Prop where
  gP : mg x = some (.ref L)
  sub : PySem.W.subIn K (.ref L) (.type "BaseException") = some true
  tP : PySem.W.typeIn K (.ref L) = some (.type "type")
  hd : PySem.W.hasDictIn K L = true
theorem excAt_mk {K : PySem.W.Frag} {mg : Str → Option Value} {h : Heap} {x : Str} {C L : Addr} {cd : ClassData} (X : K.In h) (G : h.Ns mainGlobals mg) (a : PySem.W.nsIn K mainGlobals x = some (some (.ref C)))
    (b : PySem.W.excIn K C [.type "ValueError", .type "Exception", .type "BaseException", .type "object"] "ValueError.__new__" = true) (c : PySem.W.keepIn K (.ref C) = true)
    (d : PySem.W.findIn K (.ref C) "__getattribute__" = some (some (.builtin "BaseException.__getattribute__"))) (e : PySem.W.findIn K (.ref C) "__getattr__" = some none) (f : PySem.W.subIn K (.ref C) (.type "BaseException") = some true) (g : PySem.W.hasDictIn K C = true)
    (i : PySem.W.findIn K (.ref C) "__class__" = some (some (.builtin "object.__class__"))) (j : PySem.W.specialIn K (.builtin "object.__class__") "__get__" = some (some (.builtin "getset_descriptor.__get__"))) (k : PySem.W.takesIn K (.builtin "object.__class__") = some true)
    (l : PySem.W.mroIn K C (.type "object") = some true) (m : PySem.W.typeIn K (.ref C) = some (.type "type")) (n : PySem.W.clsIn K C = some cd) (o : cd.mro = [.ref C, .ref L, .type "ValueError", .type "Exception", .type "BaseException", .type "object"]) : ExcAt K mg x C L :=
  ⟨PySem.W.mg_of X G a, b, c, ⟨d, e, f, g, i, j, k, l⟩, m, cd, n, o⟩
theorem errAt_mk {K : PySem.W.Frag} {mg : Str → Option Value} {h : Heap} {x : Str} {L : Addr} (X : K.In h) (G : h.Ns mainGlobals mg) (a : PySem.W.nsIn K mainGlobals x = some (some (.ref L)))
    (b : PySem.W.subIn K (.ref L) (.type "BaseException") = some true) (c : PySem.W.typeIn K (.ref L) = some (.type "type")) (d : PySem.W.hasDictIn K L = true) : ErrAt K mg x L := ⟨PySem.W.mg_of X G a, b, c, d⟩
section
variable {K : PySem.W.Frag} {mg mg' : Str → Option Value} {x y : Str} {C D L M : Addr}
theorem ExcAt.subs (T : ExcAt K mg x C L) (v : Value) : PySem.W.subIn K (.ref C) v = some ([.ref C, .ref L, .type "ValueError", .type "Exception", .type "BaseException", .type "object"].contains v) := by
  obtain ⟨cd, h1, h2⟩ := T.mro
  show PySem.W.mroIn K C v = _
  unfold PySem.W.mroIn
  rw [h1, Option.bind_some, h2]
  rfl
theorem ExcAt.caught (T : ExcAt K mg x C L) (E : ErrAt K mg' y L) : PySem.W.exmOne K (.ref C) (.ref L) = some true := by
  refine PySem.W.exm_ref E.sub E.hd E.tP ?_
  rw [T.subs]
  congr 1
  simp
/-- isinstance(e, D) of an error of class C -/
theorem ExcAt.kit (T : ExcAt K mg x C L) (U : ExcAt K mg' y D L) (nl : C ≠ L ∧ D ≠ L) : PySem.W.kitOne K (.ref C) (.ref D) = some (decide (C = D)) := by
  obtain ⟨cd, h1, h2⟩ := U.mro
  unfold PySem.W.kitOne
  by_cases h : C = D
  · rw [if_pos (by rw [h]; exact beq_self_eq_true _), decide_eq_true h]
  · rw [if_neg (by rw [beq_iff_eq]; intro q; exact h (Value.ref.inj q)), decide_eq_false h]
    show (if ((PySem.W.clsIn K D).isSome && PySem.W.typeIn K (.ref D) == some (.type "type")) = true then PySem.W.subIn K (.ref C) (.ref D) else none) = _
    rw [h1, U.tP, if_pos (show ((some cd).isSome && some (Value.type "type") == some (Value.type "type")) = true from rfl), T.subs]
    congr 1
    have e1 : (Value.ref D == Value.ref C) = false := by
      rw [beq_eq_false_iff_ne]
      intro q
      exact h (Value.ref.inj q).symm
    have e2 : (Value.ref D == Value.ref L) = false := by
      rw [beq_eq_false_iff_ne]
      intro q
      exact nl.2 (Value.ref.inj q)
    rw [List.contains_cons, e1, List.contains_cons, e2]
    rfl
theorem ExcAt.kitV (T : ExcAt K mg x C L) : PySem.W.kitOne K (.ref C) (.type "ValueError") = some true := by
  unfold PySem.W.kitOne
  rw [if_neg (by rw [beq_iff_eq]; intro q; cases q)]
  show (if PySem.W.kitMeta "ValueError" = true then PySem.W.subIn K (.ref C) (.type "ValueError") else none) = _
  rw [if_pos (by decide +kernel), T.subs]
  congr 1
end
section
variable {X : Cx} {W : WX} {C L : Addr} {x m : Str} {j : Nat} {p p2 pos pos' : Pos}
/-- raise C('m') -/
theorem ps_raiseO (hc : X.calm = true) (T : ExcAt X.K X.mg x C L) (tk : L2.Takes X W) (hg : Gl X x := by rfl) (hdb : (x == ("__debug__" : Str)) = false := by decide) :
    PS X (.Raise (some (.Call (.Name x p) [.Constant (.str m) j p2] [] pos)) none pos') (fun _ σ H => W (.ref C) none σ H) :=
  L2.ps_raise hc tk (L2.pmk_own PySem.F.excBase_ValueError T.xP T.gP T.kP (raises_own T.is_.hs T.tP) hg hdb)
end

/-! ## a def that is asked of the error that is handled -/
/-- the promise of a def that bears the handled error's object p among its arguments -/
structure FnP (P : Program) (w : World) (K : PySem.W.Frag) (mg : Str → Option Value) (base : Heap) (CX : CXT) (k : Nat) (f : Addr) (fd : FuncData) (ps : List Str) (sp : Addr → Value → Option Addr → Sp) : Prop where
  len : ∀ a c d vs H Q E, sp a c d vs H Q E → vs.length = ps.length
  run : ∀ (A : Around) (outer : List Env) (s : Shared) (H : Hp) (args : Args) (us : List Value) (vs : List V) (Q : VK) (E : XK) (p : Addr × Obj) (c : Value) (d : Option Addr), Zc c d p.2 → (∃ vs, p.2.data = .fields vs) → L2H.RoomH k A → L2H.PinOk outer H s p → Env0 P w K mg base A outer s H → BindsTo s fd args (ps.zip us) → Vals vs us → sp p.1 c d vs H Q E →
    codeAny (model P w) A (.call (.ref f) args) (CR CX outer P w H s Q E) s
structure FnPAt (P : Program) (w : World) (K : PySem.W.Frag) (mg : Str → Option Value) (base : Heap) (cx : CXT) (x : Str) (k : Nat) (ps : List Str) (sp : Addr → Value → Option Addr → Sp) : Prop where
  ex : ∃ f fd, mg x = some (.ref f) ∧ PySem.W.keepIn K (.ref f) = true ∧ Binds K fd ps [] ∧ FnP P w K mg base cx k f fd ps sp
theorem fnPAt_ok {P : Program} {w : World} {K : PySem.W.Frag} {mg : Str → Option Value} {base : Heap} {x : Str} {st : Stmt} {N ps : List Str} {k : Nat} {sp : Addr → Value → Option Addr → Sp} (D : DefAt K mg x st ps) (S : FnScope N ps (defScope st)) (len : ∀ a c d vs H Q E, sp a c d vs H Q E → vs.length = ps.length)
    (hbody : ∀ (f : Addr) (cdv : Value) (A : Around) (outer : List Env) (s : Shared) (H : Hp) (vs : List V) (Q : VK) (E : XK) (p : Addr × Obj) (c : Value) (d : Option Addr), Zc c d p.2 → (∃ vs, p.2.data = .fields vs) → L2H.RoomH k (A.deeper (envOfC x (defScope st) s.heap.objs.size f cdv)) → sp p.1 c d vs H Q E →
      ∃ t, PSs (L2H.cxH CX0 P w K mg base N x (defScope st) f cdv A outer s H E p).nox (defBody st) t ∧ t { nx := fun _ H' => Q .non H', rt := Q } (start N vs) H) : FnPAt P w K mg base CX0 x (k + 1) ps sp := by
  obtain ⟨f, fd, h1, h2, h3⟩ := D.ex
  obtain ⟨oc, od, kV, doc, pm, an, cdv, ct, osl, e, lk, hcd⟩ := h2.ex
  subst e
  refine ⟨f, _, h1, h2.kp, h3, len, fun A outer s H args us vs Q E p cl d hz hf hr hpin e0 hb r hsp => ?_⟩
  have there : K.In s.heap := e0.mod.kin.keeps fun b o z => (e0.bs b o z).1
  have seen : ∀ y ∈ ps.zip us, (defScope st).names.lookup y.1 = some .local ∨ ((defScope st).names.lookup y.1 = some .cell ∧ ((cellsFrom (s.heap.objs.size + 1) (defScope st).names []).lookup y.1).isSome = true) := fun y hy =>
    (S.par y.1 (List.of_mem_zip hy).1).imp id fun q => ⟨q, PySem.W.cellsFrom_some _ _ _ (.inl q)⟩
  refine codeAny_call_function hr.depth (there _ _ lk) rfl S.co S.gen rfl (PySem.W.codeRec_of there hcd) (hb _ _ _ _ (wpAny_newFunctionEnv_cells S.kind seen fun env he s1 y => ?_))
  subst he
  have lim : s.heap.NoLimit := e0.mod.nolimit.keeps fun b o z => (e0.bs b o z).1
  refine ⟨lim.keeps y.toInCall.keep, codeAny_func ?_⟩
  obtain ⟨t, ht, hq⟩ := hbody f cdv A outer s H vs Q E p cl d hz hf (hr.deeper _) hsp
  refine wpAny_mono (ht.nox.run [] s1 (L2.start N vs) H _ (L2H.inv_startH S hpin e0 (len _ _ _ _ _ _ _ hsp) r y) hq) (fun fl s' hs => ?_) fun e s' hs => hs
  match fl, hs with
  | .ret u, ⟨v, _, H', J, rv, q⟩ => exact ⟨v, H', J.os, J.bare, J.base, J.hok, rv, q⟩
  | .next, ⟨_, H', J, q⟩ => exact ⟨.non, H', J.os, J.bare, J.base, J.hok, rfl, q⟩
  | .brk, ⟨_, _, _, q⟩ => exact False.elim q
  | .cont, ⟨_, _, _, q⟩ => exact False.elim q
/-- f(e, ..) in an except suite -/
theorem pe_callP {X : Cx} {a : Addr} {oe : Obj} {pn : List (Addr × Obj)} {j k : Nat} {x : Str} {ps : List Str} {sp : Addr → Value → Option Addr → Sp} {cls : Value} {d : Option Addr} {q pos : Pos} {e : Expr} {es : List Expr} {t : TA} (F : FnPAt X.prog X.w X.K X.mg X.base CX0 x k ps sp) (hz : Zc cls d oe) (hf : ∃ vs, oe.data = .fields vs) (hr : Room j X.A)
    (ha : PA (X.suite a ((a, oe) :: pn)) (e :: es) t) (hj : k ≤ j := by decide) (hg : Gl X x := by rfl)
    (hdb : (x == ("__debug__" : Str)) = false := by decide) (he : starEach (e :: es) X.env = (false, eval e X.env) :: starEach es X.env := by rfl) (hpl : (backTo pos (starEach es X.env)).any (·.1) = false := by rfl) :
    PE (X.suite a ((a, oe) :: pn)) (.Call (.Name x q) (e :: es) [] pos) (tCall (sp a cls d) [] E0 t) := by
  obtain ⟨f, fd, h1, h2, h3, h4⟩ := F.ex
  have room0 := (L2H.roomH_of hr).mono hj
  have room : L2H.RoomH k (X.suite a ((a, oe) :: pn)).A := ⟨room0.dp, room0.un⟩
  refine ⟨fun pins s σ H Q I h => wpAny_Call_Name_kw (ld_glob I hg h1 (PySem.W.callWith_K (h₀ := X.base) I.ok.mod.kin h2 (thn (ha.run pos pins s σ H _ I h) fun us s1 ⟨vs, H1, I1, r, z⟩ => ⟨I1.kIn, ?_⟩) he hpl) hdb)⟩
  have z : sp a cls d (vs ++ []) H1 Q E0 := z
  rw [List.append_nil] at z
  have b := h3 s1 us I1.kIn (by rw [List.append_nil, ← r.length]; exact h4.len _ _ _ _ _ _ _ z)
  rw [List.append_nil] at b
  obtain ⟨g1, g2, g3, g4, g5⟩ := I1.pin (a, oe) (List.mem_append_left _ List.mem_cons_self)
  refine wpAny_call (codeAny_mono (h4.run _ (X.suite a ((a, oe) :: pn)).stack s1 H1 ⟨us, []⟩ us vs Q E0 (a, oe) cls d hz hf room ⟨g1, g2, fun hm => (List.mem_cons.mp (I1.stkSub a hm)).elim g3 g4, g5⟩ I1.env0 b r z) fun r s' hq => ?_)
  match r, hq with
  | .error e, hq => exact False.elim hq
  | .ok (.ret u), hq => exact I1.after hq
  | .ok .next, hq => exact False.elim hq
  | .ok .brk, hq => exact False.elim hq
  | .ok .cont, hq => exact False.elim hq
/-- isinstance(e, c) in such a def, p's object an error of class C -/
def rIsP (K : PySem.W.Frag) (C : Addr) (p : Addr × Obj) : List V → Hp → VK → Prop := fun xs H Q => ∃ (c : V) (cv : Value) (b : Bool), xs = [.ref p.1, c] ∧ (∀ u, RelV c u → u = cv) ∧ PySem.W.kitOne K (.ref C) cv = some b ∧ Q (.bl b) H
/-- of some classes -/
def rIsPT (K : PySem.W.Frag) (C : Addr) (p : Addr × Obj) : List V → Hp → VK → Prop := fun xs H Q => ∃ (tp : Addr) (cs : List V) (us : List Value) (b : Bool), xs = [.ref p.1, .ref tp] ∧ H tp = some (.tup cs) ∧ Paired ClsV cs us ∧ PySem.W.kitAny K (.ref C) us = some b ∧ Q (.bl b) H
theorem instAt_of {h : Heap} {a D : Addr} {oe : Obj} (g : h.get? a = some oe) (hz : Zc (.ref D) none oe) (hf : ∃ vs, oe.data = .fields vs) : PySem.W.InstAt h a oe D none := by
  obtain ⟨vs, hv⟩ := hf
  refine ⟨g, hz.1, ?_, ?_⟩
  · unfold PySem.W.notCls
    rw [hv]
  · rw [hz.2]
    trivial
section
variable {X : Cx} {C : Addr} {p : Addr × Obj}
theorem call_isP (T : ExcC X.K C) (hz : Zc (.ref C) none p.2) (hf : ∃ vs, p.2.data = .fields vs) (hp : p ∈ X.pn) : CallR X (.builtin "isinstance") (rIsP X.K C p) := by
  intro pins s σ H xs us Q I r h
  obtain ⟨c, cv, b, rfl, hcv, e, q⟩ := h
  obtain ⟨u, w', rfl, ru, rw'⟩ := vals2 r
  cases (show u = Value.ref p.1 from ru)
  have ec := hcv _ rw'
  subst ec
  exact PySem.W.kia_one (PySem.W.handS_kitx_exc T.hg T.hk T.hs T.hd T.ha T.hn T.ht T.hm) I.kIn (instAt_of (I.pin p (List.mem_append_left _ hp)).1 hz hf) e (fun z => nomatch z) fun tk => ⟨.bl b, H, I.tok tk, rfl, q⟩
theorem call_isPT (T : ExcC X.K C) (hz : Zc (.ref C) none p.2) (hf : ∃ vs, p.2.data = .fields vs) (hp : p ∈ X.pn) : CallR X (.builtin "isinstance") (rIsPT X.K C p) := by
  intro pins s σ H xs us Q I r h
  obtain ⟨tp, cs, ws, b, rfl, hT, k, e, q⟩ := h
  obtain ⟨u, w', rfl, ru, rw'⟩ := vals2 r
  cases (show u = Value.ref p.1 from ru)
  cases (show w' = Value.ref tp from rw')
  obtain ⟨_, its, rv, o, h1, h2, n, h3⟩ := (show ObjOk X.prog X.w H s.heap tp (.tup cs) from I.hok tp _ hT)
  have e3 := ClsV.all k rv
  subst e3
  obtain ⟨oc, od, dt, sl⟩ := o
  simp only at h2 h3
  subst h2 h3
  exact PySem.W.kia_tup (PySem.W.handS_kitx_exc T.hg T.hk T.hs T.hd T.ha T.hn T.ht T.hm) I.kIn (instAt_of (I.pin p (List.mem_append_left _ hp)).1 hz hf) h1 e (fun z => nomatch z) fun tk => ⟨.bl b, H, I.tok tk, rfl, q⟩
end
/-- a class of errors as a value -/
theorem pe_exc {X : Cx} {x : Str} {C L : Addr} {pos : Pos} (h : ExcAt X.K X.mg x C L) (hg : Gl X x := by rfl) (hd : (x == ("__debug__" : Str)) = false := by decide) : PE X (.Name x pos) (tC (.ref C)) := pe_glob hg h.gP rfl hd
/-! ## t[::-1] of a tuple -/
theorem pick_rev (xs : Array Value) : ((List.range xs.size).filterMap fun (m : Nat) => xs[(((xs.size : Int) - 1) + (m : Int) * (-1)).toNat]?).toArray = xs.toList.reverse.toArray := by
  congr 1
  have e : ∀ m ∈ List.range xs.size, xs[(((xs.size : Int) - 1) + (m : Int) * (-1)).toNat]? = xs[xs.size - 1 - m]? := by
    intro m hm
    have := List.mem_range.mp hm
    congr 1
    omega
  have cong : ∀ (l : List Nat) (f g : Nat → Option Value), (∀ m ∈ l, f m = g m) → l.filterMap f = l.filterMap g := by
    intro l f g
    induction l with
    | nil => intro _; rfl
    | cons a r ih =>
      intro h
      rw [List.filterMap_cons, List.filterMap_cons, h a List.mem_cons_self, ih fun m hm => h m (List.mem_cons_of_mem _ hm)]
  rw [cong _ _ _ e]
  have e2 : (List.range xs.size).filterMap (fun m => xs[xs.size - 1 - m]?) = ((List.range xs.size).map fun k => xs.size - 1 - k).filterMap (xs[·]?) := by
    rw [List.filterMap_map]
    rfl
  rw [e2, PySem.W.krv_range, List.filterMap_reverse, PySem.W.krv_all]
section
variable {prog : Program} {w : World} {A : Around} {E : Value → Shared → Prop} {s : Shared}
theorem sliceApplied_rev {sl : Addr} {vs : Value} {n : Nat} {Q : Int × Int × Nat → Shared → Prop} (hs : s.heap.IsSliceOf sl .none .none vs) (ps : IsPart vs (some (-1))) (h : Q ((n : Int) - 1, -1, n) s) :
    wpAny (model prog w) A (Builtin.Slice.sliceApplied (.ref sl) (pure (n : Int))) Q E s := by
  obtain ⟨os, hos, hcs, hds⟩ := id hs
  unfold Builtin.Slice.sliceApplied Builtin.Slice.sliceFields
  refine wpAny_bind (wpAny_bind (wpAny_field hos hds (x := .none) rfl (wpAny_bind (wpAny_field hos hds (x := .none) rfl (wpAny_bind (wpAny_field hos hds (x := vs) rfl (wpAny_pure ?_)))))))
  refine wpAny_bind (HT.slicePart_ ps ?_)
  show wpAny _ _ (if ((-1 : Int) == 0) = true then _ else _) _ _ s
  rw [if_neg (by decide)]
  refine wpAny_bind (HT.slicePart_ .none (wpAny_bind (HT.slicePart_ .none (wpAny_bind (wpAny_pure ?_)))))
  have e : Builtin.Slice.slicePlaces ((n : Int) - 1) (-1) (-1) = n := by
    unfold Builtin.Slice.slicePlaces
    rw [if_neg (by decide)]
    by_cases hn : (n : Int) - 1 > -1
    · rw [if_pos hn, show (- -1 : Int) = 1 by decide, Int.ediv_one]
      omega
    · rw [if_neg hn]
      omega
  show wpAny _ _ (pure ((n : Int) - 1, (-1 : Int), Builtin.Slice.slicePlaces ((n : Int) - 1) (-1) (-1))) _ _ s
  rw [e]
  exact wpAny_pure h
theorem getItem_tuple_rev {t sl : Addr} {items : Array Value} {vs : Value} {Q : Value → Shared → Prop} (ht : IsTup s.heap t items) (hs : s.heap.IsSliceOf sl .none .none vs) (ps : IsPart vs (some (-1)))
    (h : Q (.ref s.heap.objs.size) { s with heap := s.heap.push { cls := .type "tuple", data := .seq items.toList.reverse.toArray } }) (hsz : items.size ≤ sizeLine) : wpAny (model prog w) A (getItem (.ref t) (.ref sl)) Q E s := by
  have room : sizeOk (.seq items.toList.reverse.toArray) := by
    show items.toList.reverse.toArray.size ≤ sizeLine
    rw [List.size_toArray, List.length_reverse, Array.length_toList]
    exact hsz
  obtain ⟨os, hos, hcs, hds⟩ := id hs
  have hTs : s.TypeIs (.ref sl) "slice" := ⟨os, hos, hcs⟩
  unfold getItem
  try with_reducible refine wpAny_holding ?_
  first | refine wpAny_bind (wpAny_pure ?_) | skip
  refine wpAny_bind (wpAny_sequenceKey ht.typeIs (by decide) ?_)
  refine wpAny_bind (wpAny_callSpecial?_slot (name := Str.ofString "__getitem__") ht.typeIs PyProof.Rows.slot_tuple_getitem
    (wpAny_call_entry PyProof.Rows.slot_tuple_getitem ht.typeIs entry_tuple_getitem ?_ (args_tuple_getitem _ _)))
  show wpAny _ _ (Builtin.Tuple.tupleItemsOf (.ref t) >>= _) _ _ s
  refine wpAny_bind (tupleItemsOf_ ht ?_)
  refine wpAny_bind (wpAny_typeOf hTs ?_)
  rw [if_pos (by decide)]
  refine wpAny_bind (sliceApplied_rev hs ps ?_)
  show wpAny _ _ (if ((items.size : Int) - 1 == 0 && (-1 : Int) == 1 && items.size == items.size) = true then _ else _) _ _ s
  rw [if_neg (by rw [show ((-1 : Int) == 1) = false from rfl, Bool.and_false, Bool.false_and]; exact Bool.false_ne_true), pick_rev]
  first
    | exact wpAny_bind (m := Builtin.Tuple.tupleExact _) (wpAny_newObj_type (wpAny_pure ⟨_, rfl, wpAny_pure h⟩) room)
    | exact wpAny_bind (m := Builtin.Tuple.tupleExact _) (wpAny_newObj_type (wpAny_bind (wpAny_pure (wpAny_pure ⟨_, rfl, wpAny_pure h⟩))) room)
    | exact wpAny_bind (wpAny_bind (m := Builtin.Tuple.tupleExact _) (wpAny_newObj_type (wpAny_pure (wpAny_pure ⟨_, rfl, wpAny_pure h⟩)) room))
    | exact wpAny_bind (wpAny_bind (m := Builtin.Tuple.tupleExact _) (wpAny_newObj_type (wpAny_pure ⟨_, rfl, wpAny_pure h⟩) room))
end
def tRevT (K : PySem.W.Frag) (te : TE) : TE := fun σ H Q => te σ H fun x H1 => ∃ a xs, x = .ref a ∧ SqT K H1 a xs ∧ ∀ p, H1 p = none → Q (.ref p) (upd H1 p (.tup xs.reverse))
theorem pe_revT {X : Cx} {e : Expr} {te : TE} {k : Nat} {p1 p2 p3 pos : Pos} (he : PE X e te) : PE X (.Subscript e (.Slice none none (some (.UnaryOp .USub (.Constant (.int 1) k p1) p2)) p3) pos) (tRevT X.K te) := by
  refine ⟨fun pins s σ H Q I h => ?_⟩
  refine Subscript_ (thn (he.run pins s σ H _ I h) fun v s1 ⟨x, H1, I1, r1, a, xs, ex, hx, q⟩ => ?_)
  subst ex
  cases r1
  have hst : PO X (some (.UnaryOp .USub (.Constant (.int 1) k p1) p2)) (tPart (tUn (rU fun i => .int (-i)) (tC (.int 1)))) := po_some (pe_un un_neg pe_int)
  refine wpAny_Slice ?_
  rw [evalPart_none]
  refine wpAny_pure ?_
  refine wpAny_pure ?_
  refine thn (hst.run pins s1 σ H1 (fun o H4 => o = some (-1) ∧ H4 = H1) I1 ⟨1, rfl, -1, rfl, rfl, rfl⟩) fun vs s4 ⟨o, H4, I4, ps, eo, e4⟩ => ?_
  subst eo e4
  have I5 : Inv X pins σ H4 { s4 with heap := s4.heap.push { cls := .type "slice", data := .fields #[.none, .none, vs] } } := I4.kept (t' := s4.toks) fun b ob q => Heap.get?_push_of_some _ q
  obtain ⟨its, r, ht, hz⟩ := I5.tuple hx
  have hlen := r.length
  show wpAny (model X.prog X.w) X.A (subscriptTail e (.Slice none none (some (.UnaryOp .USub (.Constant (.int 1) k p1) p2)) p3) (.ref a) (.ref s4.heap.objs.size)) (EP X pins σ Q) X.xe { s4 with heap := s4.heap.push { cls := .type "slice", data := .fields #[.none, .none, vs] } }
  refine tail_any (ops := [.ref a, .ref s4.heap.objs.size]) ht.typeIs PyProof.Rows.slot_tuple_getitem.lookup ?_ (by with_unfolding_all rfl)
  refine getItem_tuple_rev ht (Heap.IsSliceOf.new _ .none .none vs) ps ?_ (by rw [List.size_toArray]; omega)
  refine ⟨.ref _, _, I5.laid (t' := s4.toks) (o := .tup xs.reverse) (fun b ob q => Heap.get?_push_of_some _ q) (Nat.le_refl _) ?_, rfl, q _ (I5.hok.fresh (Nat.le_refl _))⟩
  exact ⟨by rw [List.length_reverse]; exact hz, _, by simpa using r.reverse, IsTup.new _ _⟩

/-! ## C.m(o, ..): a def of a class, read off the class itself -/
structure ClsFnAt (K : PySem.W.Frag) (C : Addr) (m qual : Str) (st : Stmt) (ps : List Str) : Prop where
  ex : ∃ f fd, PySem.W.readsIn K C (.type "type") = true ∧ PySem.W.specialIn K (.ref C) "__getattribute__" = some (some (.builtin "type.__getattribute__")) ∧ PySem.W.findCls K (.ref C) (.type "type") m = some (.val (.ref f)) ∧ Fun K m qual st f fd ∧ Binds K fd ps []
theorem clsFnAt_mk {K : PySem.W.Frag} {C : Addr} {m qual : Str} {st : Stmt} {ps : List Str} {f : Addr} {oc : Value} {od an : Option Addr} {osl : Array (Option Value)} {kV doc pm cdv ct : Value}
    (r : PySem.W.readsIn K C (.type "type") = true) (g : PySem.W.specialIn K (.ref C) "__getattribute__" = some (some (.builtin "type.__getattribute__"))) (a : PySem.W.findCls K (.ref C) (.type "type") m = some (.val (.ref f)))
    (l : K.lookup f = some ⟨oc, od, .func (PySem.W.fnOf m qual (defArgs st) (defBody st) (defScope st) .none kV doc pm an cdv ct), osl⟩)
    (c : PySem.W.codeIn K cdv qual = true) (k : PySem.W.keepIn K (.ref f) = true)
    (b : ∀ us : List Value, us.length = ps.length → bindArgs (PySem.W.fnOf m qual (defArgs st) (defBody st) (defScope st) .none kV doc pm an cdv ct) ⟨us, []⟩ = pure (ps.zip us)) : ClsFnAt K C m qual st ps :=
  ⟨f, _, r, g, a, fun_mk l c k, .all b⟩
/-- the promise of a def that is read off the class C -/
structure ClsFn (P : Program) (w : World) (K : PySem.W.Frag) (mg : Str → Option Value) (base : Heap) (cx : CXT) (C : Addr) (m : Str) (k : Nat) (ps : List Str) (sp : Sp) : Prop where
  ex : ∃ f fd, PySem.W.readsIn K C (.type "type") = true ∧ PySem.W.specialIn K (.ref C) "__getattribute__" = some (some (.builtin "type.__getattribute__")) ∧ PySem.W.findCls K (.ref C) (.type "type") m = some (.val (.ref f)) ∧ PySem.W.keepIn K (.ref f) = true ∧ Binds K fd ps [] ∧ FnOk P w K mg base cx k f fd ps sp
theorem clsFn_okX {P : Program} {w : World} {K : PySem.W.Frag} {mg : Str → Option Value} {base : Heap} {C : Addr} {m qual : Str} {st : Stmt} {N ps : List Str} {k : Nat} {sp : Sp} (D : ClsFnAt K C m qual st ps) (S : FnScope N ps (defScope st)) (len : ∀ vs H Q E, sp vs H Q E → vs.length = ps.length)
    (hbody : ∀ (f : Addr) (cdv : Value) (A : Around) (outer : List Env) (s : Shared) (H : Hp) (vs : List V) (Q : VK) (E : XK), Room k (A.deeper (envOfC qual (defScope st) s.heap.objs.size f cdv)) → sp vs H Q E →
      ∃ t, PSs (cxOf (L2.CX P w) P w K mg base N qual (defScope st) f cdv A outer s H E) (defBody st) t ∧ t { nx := fun _ H' => Q .non H', rt := Q } (start N vs) H) :
    ClsFn P w K mg base (L2.CX P w) C m (k + 1) ps sp := by
  obtain ⟨f, fd, h1, h2, h3, h4, h5⟩ := D.ex
  obtain ⟨oc, od, kV, doc, pm, an, cdv, ct, osl, e, lk, hcd⟩ := h4.ex
  subst e
  exact ⟨f, _, h1, h2, h3, h4.kp, h5, fn_of lk hcd S len fun A outer s H vs Q E hr hsp => hbody f cdv A outer s H vs Q E hr hsp⟩
theorem pe_clsF {X : Cx} {cx : CXT} {j k : Nat} {C : Addr} {ps : List Str} {sp : Sp} {E : XK} {m : Str} {pos apos : Pos} {e o : Expr} {es : List Expr} {t : TA} {pl : Sem Bool} (F : ClsFn X.prog X.w X.K X.mg X.base cx C m k ps sp) (hr : Room j X.A) (hx : Passes cx X E) (he : PE X o (tC (.ref C))) (ha : PA X (e :: es) t) (hj : k ≤ j := by decide)
    (hst : starEach (e :: es) X.env = (false, eval e X.env) :: starEach es X.env := by rfl) (hpl : (backTo pos (starEach es X.env)).any (·.1) = false := by rfl)
    (ht : eval (.Call (.Attribute o m apos) (e :: es) [] pos) X.env = (do
      let ov ← eval o X.env
      standAt apos.atName
      let (f, first) ← holding [ov] (getMethod ov m pl)
      callWith pos f first (backTo pos (starEach (e :: es) X.env)) (backToKw pos (keywordEach [] X.env))) := by rfl) :
    PE X (.Call (.Attribute o m apos) (e :: es) [] pos) (tCall sp [] E t) := by
  obtain ⟨f, fd, h1, h2, h3, h4, h5, h6⟩ := F.ex
  refine ⟨fun pins s σ H Q I h => ?_⟩
  refine PySem.W.methodCall_KW (pl := pl) (thn (he.run pins s σ H (fun x H1 => x = .ref C ∧ H1 = H) I ⟨rfl, rfl⟩) fun u s1 ⟨x, H1, I1, rx, ex, eh⟩ => ?_) ht
  subst ex eh
  obtain rfl : u = Value.ref C := rx
  refine PySem.W.method_cls I1.kIn h2 (PySem.W.cls_value I1.kIn h1 h3 rfl ?_)
  have I2 := I1.tok (s1.toks + 1)
  refine PySem.W.callWith_K (first := []) (h₀ := X.base) I.ok.mod.kin h4 (thn (ha.run pos pins _ σ H1 _ I2 h) fun us s2 ⟨vs, H2, I3, r, q2⟩ => ⟨I3.kIn, ?_⟩) hst hpl
  exact run_fn (us := us) (vs := vs) (dvs := []) (ds := []) h6 (hr.mono hj) h5 .nil hx I3 r q2

/-! ## what lets nothing out is calm -/
section
variable {P : Program} {w : World} {K : PySem.W.Frag} {mg : Str → Option Value} {base : Heap} {k : Nat} {ps : List Str} {sp : Sp}
theorem fnOk_calm {f : Addr} {fd : FuncData} (F : FnOk P w K mg base (L2.CX P w) k f fd ps sp) : FnOk P w K mg base CX0 k f fd ps (fun vs H Q _ => sp vs H Q E0) := by
  refine ⟨fun vs H Q E h => F.len vs H Q E0 h, fun A outer s H args us vs Q E hr e0 hb r h => ?_⟩
  refine codeAny_mono (F.run A outer s H args us vs Q E0 hr e0 hb r h) fun r s' z => ?_
  match r, z with
  | .error e, z =>
    obtain ⟨_, _, _, _, _, _, _, _, _, _, _, _, z⟩ := z
    exact z.elim
  | .ok (.ret u), z => exact z
  | .ok .next, z => exact z
  | .ok .brk, z => exact z
  | .ok .cont, z => exact z
theorem FnAt.calm {x : Str} (F : FnAt P w K mg base (L2.CX P w) x k ps sp) : FnAt P w K mg base CX0 x k ps (fun vs H Q _ => sp vs H Q E0) := by
  obtain ⟨f, fd, h1, h2, h3, h4⟩ := F.ex
  exact ⟨f, fd, h1, h2, h3, fnOk_calm h4⟩
theorem MakAt.calm {x : Str} {C : Addr} (F : MakAt P w K mg base (L2.CX P w) x C k ps sp) : MakAt P w K mg base CX0 x C k ps (fun vs H Q _ => sp vs H Q E0) := by
  obtain ⟨f, fd, h1, h2, h3, h4⟩ := F.ex
  exact ⟨f, fd, h1, h2, h3, fnOk_calm h4⟩
end
theorem DispAt.calm {P : Program} {w : World} {K : PySem.W.Frag} {mg : Str → Option Value} {base : Heap} {k : Nat} {ps : List Str} {T : Addr → Prop} {m : Str} {sp : Addr → Sp} (F : DispAt P w K mg base (L2.CX P w) T m k ps sp) : DispAt P w K mg base CX0 T m k ps (fun C vs H Q _ => sp C vs H Q E0) :=
  ⟨fun C t => let ⟨f, fd, h1, h2, h3, h4⟩ := F.ex C t; ⟨f, fd, h1, h2, h3, fnOk_calm h4⟩⟩
theorem call_isStr {X : Cx} : CallR X (.builtin "isinstance") (rIsF "str" isStrV) :=
  call_isF (by decide +kernel) (fun _ => (by decide +kernel : kitB "bool" "str" = some false)) (fun _ => (by decide +kernel : kitB "int" "str" = some false)) fun _ => (by decide +kernel : kitB "str" "str" = some true)
end Ru

set_option Elab.async false
set_option linter.all false
set_option maxRecDepth 100000
set_option maxHeartbeats 2000000
section
open PySem L2 Ru
local macro_rules | `(tactic| walk_at "rd") => `(tactic| try simp only [tSeq, tAsg, gName, tVar, tC, tOp, rI, rI0, tRet, tDrop, tIfS, tTest, tB, tAndV, tOrV, tNotV, tAnd, tOr, tNot, tIf, tCall, tCons, tNil, tCB, tAug, rEq, rNe, tNext, tRetN, L2.start, List.map_cons, List.map_nil, List.length_cons, List.length_nil, List.replicate, List.cons_append, List.nil_append, List.append_nil, List.getElem?_cons_zero, List.getElem?_cons_succ, List.set_cons_zero, List.set_cons_succ, Option.some.injEq, V.int.injEq, V.str.injEq, V.bl.injEq, V.ref.injEq, List.cons.injEq, exists_eq_left, exists_eq_left', exists_eq_right, exists_and_left, exists_const, true_and, and_true, CDiv, CMul, Int.reduceLT, Int.reduceLE, Int.reducePow, Int.reduceNeg, true_or, or_true, wipe, gcons_eq, gnil_eq, cxOf_K, tSl, rSlS, tLst, tTup, rIsF, isBlV, isIntV, flat_s, flat_i, flat_b, flat_n, rIsB, rNotB, tPart, tNoPart, rIxS, reduceCtorEq, false_and, and_false, false_or, or_false, scal_ii, scal_bb, scal_ss, scal_sb, scal_bs, decide_true, decide_false, if_true, if_false, Bool.false_eq_true, Bool.not_true, Bool.not_false, ite_true, ite_false])

namespace My
def top (i : Nat) : Stmt := PySem.Challenge.pw_rungworks_k11_ends.main.body.getD i (.Pass ⟨0, 0, 0, 0⟩)
/-! ## names -/
def isLow (c : Nat) : Bool := decide (97 ≤ c ∧ c ≤ 122)
def isWord (z : Str) : Bool := z.cps.toList.all isLow && !z.cps.toList.isEmpty
abbrev sSIGNS : Str := "abcdefghijklmnopqrstuvwxyz"
def keptL : List Str := ["on", "off", "and", "or", "not", "set", "reset", "timer", "counter", "inputs", "outputs"]
def keptV : List V := keptL.map V.str
def isName (z : Str) : Bool := isWord z && decide (z.length ≤ 8) && !decide (z ∈ keptL)
theorem signs_cps : sSIGNS.cps.toList = (List.range 26).map (· + 97) := by decide +kernel
theorem mem_signs {c : Nat} : c ∈ sSIGNS.cps.toList ↔ isLow c = true := by
  rw [signs_cps, List.mem_map]
  unfold isLow
  rw [decide_eq_true_eq]
  constructor
  · rintro ⟨a, h, rfl⟩
    rw [List.mem_range] at h
    omega
  · intro h
    exact ⟨c - 97, List.mem_range.mpr (by omega), by omega⟩
theorem dec_signs {c : Nat} : decide (c ∈ sSIGNS.cps.toList) = isLow c := by
  rw [Bool.eq_iff_iff, decide_eq_true_eq]
  exact mem_signs
theorem inV_strs (z : Str) : ∀ l : List Str, inV (.str z) (l.map V.str) = decide (z ∈ l)
  | [] => by simp [inV]
  | x :: l => by
    have ih := inV_strs z l
    unfold inV at ih ⊢
    rw [List.map_cons, List.any_cons, ih]
    rw [Bool.eq_iff_iff]
    simp [eqV]
    constructor
    · rintro (h | h)
      · exact .inl h.symm
      · exact .inr h
    · rintro (h | h)
      · exact .inl h.symm
      · exact .inr h
theorem flat_strs : ∀ l : List Str, (l.map V.str).all flatV = true
  | [] => rfl
  | x :: l => by rw [List.map_cons, List.all_cons, flat_strs l]; rfl
theorem isWord_ne {z : Str} : (z ≠ ("" : Str)) ↔ z.cps.toList.isEmpty = false := by
  obtain ⟨a⟩ := z
  have e : ("" : Str) = ⟨#[]⟩ := by decide +kernel
  rw [e]
  cases h : a.toList with
  | nil =>
    have : a = #[] := by
      apply Array.ext'
      rw [h]
    subst this
    simp
  | cons x r =>
    refine ⟨fun _ => rfl, fun _ q => ?_⟩
    have q' : a = #[] := by injection q
    subst q'
    cases h
def spIsWord : Sp := fun vs H Q _ => ∃ z : Str, vs = [.str z] ∧ Q (.bl (isWord z)) H
def spIsName : Sp := fun vs H Q _ => ∃ z : Str, vs = [.str z] ∧ z.length ≤ sizeLine ∧ Q (.bl (isName z)) H
abbrev s_is_word : Stmt := top 16
theorem sc_is_word : FnScope ["text", "sign"] ["text"] (defScope s_is_word) := ⟨rfl, rfl, rfl, by decide +kernel, rfl, by decide +kernel, by decide +kernel⟩
abbrev s_is_name : Stmt := top 17
theorem sc_is_name : FnScope ["name"] ["name"] (defScope s_is_name) := ⟨rfl, rfl, rfl, by decide +kernel, rfl, by decide +kernel, by decide +kernel⟩
structure TNames (K : PySem.W.Frag) (mg : Str → Option Value) : Prop where
  d_is_word : DefAt K mg "is_word" s_is_word ["text"]
  d_is_name : DefAt K mg "is_name" s_is_name ["name"]
  g_SIGNS : GlobC mg "SIGNS" (.str sSIGNS)
  g_MOST_SIGNS : GlobC mg "MOST_SIGNS" (.int 8)
  g_KEPT : GlobT K mg "KEPT" keptV
  z_len : mg "len" = none
section
variable {P : Program} {w : World} {K : PySem.W.Frag} {mg : Str → Option Value} {base : Heap}
theorem ok_is_word (T : TNames K mg) : FnAt P w K mg base CX0 "is_word" 1 ["text"] spIsWord := by
  refine fnAt_ok T.d_is_word sc_is_word (fun vs H Q E h => ?_) (fun f cdv A outer s H vs Q E hr h => ?_)
  · obtain ⟨z, rfl, _⟩ := h; rfl
  · obtain ⟨z, rfl, k⟩ := h
    refine ⟨_, (pss_cons (ps_for PassesOwn.never rfl (pi_str (pv 0)) (pg_name (i := 1) sc_is_word.nd rfl (by first | exact Or.inl rfl | exact Or.inr rfl)) (pss_one (ps_if (pt_cmpR op_notIn_sign (pv 1) (pe_gc T.g_SIGNS) rfl) (pss_one (ps_ret pe_bl)) pss_nil)))
        (pss_one (ps_ret (pe_cmpR op_ne (pv 0) pe_str (nomark _))))), ?_⟩
    refine ⟨_, rfl, z, rfl, for_str (x := z) (fun i σ H' => ∃ v, σ = [some (.str z), v] ∧ H' = H ∧ (z.cps.toList.take i).all isLow = true) ⟨none, rfl, rfl, rfl⟩ ?_ ?_⟩
    · rintro i c σ H' hi ⟨v, rfl, rfl, hp⟩
      have hi' : z.cps.toList[i]? = some c := by simpa using hi
      walk_at "rd"
      refine ⟨c, rfl, ?_⟩
      rw [dec_signs]
      by_cases hc : isLow c = true
      · rw [hc]
        simp only [Bool.not_true, Bool.false_eq_true, if_false]
        rw [List.take_succ, hi', List.all_append, hp]
        simp [hc]
      · have hc' : isLow c = false := by simpa using hc
        rw [hc']
        refine iteT ?_
        have e : isWord z = false := by
          unfold isWord
          rw [Bool.and_eq_false_iff]
          left
          rw [List.all_eq_false]
          exact ⟨c, List.mem_of_getElem? hi', by simp [hc']⟩
        rw [e] at k
        exact k
    · rintro σ H' ⟨v, rfl, rfl, hp⟩
      walk_at "rd"
      have e : (!decide (z = "")) = isWord z := by
        unfold isWord
        have hp' : z.cps.toList.all isLow = true := by
          have : z.cps.toList.take z.cps.size = z.cps.toList := by
            rw [List.take_of_length_le]
            simp
          rw [this] at hp
          exact hp
        rw [hp', Bool.true_and, Bool.eq_iff_iff]
        simp only [Bool.not_eq_true', decide_eq_false_iff_not]
        exact isWord_ne
      rw [e]
      exact k
theorem ok_is_name (T : TNames K mg) : FnAt P w K mg base CX0 "is_name" 2 ["name"] spIsName := by
  have G_is_word : FnAt P w K mg base CX0 "is_word" 1 _ spIsWord := ok_is_word T
  refine fnAt_ok T.d_is_name sc_is_name (fun vs H Q E h => ?_) (fun f cdv A outer s H vs Q E hr h => ?_)
  · obtain ⟨z, rfl, _⟩ := h; rfl
  · obtain ⟨z, rfl, hz, k⟩ := h
    refine ⟨_, (pss_one (ps_ret (pe_and (pe_callF G_is_word hr pass0 (pa_cons (pv 0) pa_nil)) (pe_and (pe_cmpR op_le (pe_callB call_len_str (by rfl) T.z_len PySem.boot_len (pa_cons (pv 0) pa_nil)) (pe_gc T.g_MOST_SIGNS) (nomark _)) (pe_one (pe_cmp (pc_notInK T.g_KEPT (pv 0)))))))), ?_⟩
    walk_at "rd"
    refine ⟨z, rfl, ?_⟩
    unfold isName at k
    cases hw : isWord z with
    | false =>
      rw [hw] at k
      exact ⟨false, rfl, iteF k⟩
    | true =>
      rw [hw] at k
      refine ⟨true, rfl, iteT ⟨hz, ?_⟩⟩
      by_cases hl : z.length ≤ 8
      · have hl' : ((z.length : Nat) : Int) ≤ 8 := by omega
        rw [decide_eq_true hl']
        refine iteT ⟨flat_strs _, ?_⟩
        unfold keptV
        rw [inV_strs]
        rw [decide_eq_true hl] at k
        exact k
      · have hl' : ¬ ((z.length : Nat) : Int) ≤ 8 := by omega
        rw [decide_eq_false hl']
        rw [decide_eq_false hl] at k
        exact iteF k
end

/-! ## cells, mixed at once -/
def cellAt (ns : List Int) (k : Int) : Int := ns.getD k.toNat 0
def mixed (c k : Int) : Int := (((c + 7919 * k + 11) * 48271 % 2147483647) * ((c + 7919 * k + 11) * 48271 % 2147483647) + 40692 * ((c + 7919 * k + 11) * 48271 % 2147483647)) % 2147483399
theorem mixed_nn (c k : Int) : 0 ≤ mixed c k := Int.emod_nonneg _ (by decide)
theorem mixed_lt (c k : Int) : mixed c k < 2147483399 := Int.emod_lt_of_pos _ (by decide)
theorem letters_at {j : Int} (h0 : 0 ≤ j) (h1 : j < 26) : atI (("abcdefghijklmnopqrstuvwxyz" : Str)).cps.toList j = some (97 + j.toNat) := by
  have e : ("abcdefghijklmnopqrstuvwxyz" : Str).cps.toList = (List.range 26).map (97 + ·) := by decide +kernel
  rw [e]
  refine atI_int h0 ?_
  rw [List.getElem?_map, List.getElem?_range (by omega)]
  rfl
/-- a drawn number: it is not below 0 -/
def spCellAt (K : PySem.W.Frag) : Sp := fun vs H Q _ => ∃ (a : Addr) (ns : List Int) (k : Int), vs = [.ref a, .int k] ∧ SqL K H a (ns.map V.int) ∧ 0 ≤ k ∧ ∀ c : Int, 0 ≤ c → c < 2147483399 → c = mixed (cellAt ns k) (300 + k) → Q (.int c) H
def spMixed : Sp := fun vs H Q _ => ∃ c k : Int, vs = [.int c, .int k] ∧ Q (.int (mixed c k)) H
abbrev s__law_cell_at : Stmt := top 28
theorem sc__law_cell_at : FnScope ["_law_script", "_law_k", "_law_cell"] ["_law_script", "_law_k"] (defScope s__law_cell_at) := ⟨rfl, rfl, rfl, by decide +kernel, rfl, by decide +kernel, by decide +kernel⟩
abbrev s__law_mixed : Stmt := top 30
theorem sc__law_mixed : FnScope ["_law_cell", "_law_k", "_law_mix"] ["_law_cell", "_law_k"] (defScope s__law_mixed) := ⟨rfl, rfl, rfl, by decide +kernel, rfl, by decide +kernel, by decide +kernel⟩
structure TCells (K : PySem.W.Frag) (mg : Str → Option Value) : Prop where
  d_cell_at : DefAt K mg "_law_cell_at" s__law_cell_at ["_law_script", "_law_k"]
  d_mixed : DefAt K mg "_law_mixed" s__law_mixed ["_law_cell", "_law_k"]
  z_len : mg "len" = none
section
variable {P : Program} {w : World} {K : PySem.W.Frag} {mg : Str → Option Value} {base : Heap}
theorem ok_mixed (T : TCells K mg) : FnAt P w K mg base CX0 "_law_mixed" 1 ["_law_cell", "_law_k"] spMixed := by
  refine fnAt_ok T.d_mixed sc__law_mixed (fun vs H Q E h => ?_) (fun f cdv A outer s H vs Q E hr h => ?_)
  · obtain ⟨c, k, rfl, _⟩ := h; rfl
  · obtain ⟨c, n, rfl, k⟩ := h
    refine ⟨_, (pss_cons (ps_set (i := 2) sc__law_mixed.nd rfl (by first | exact Or.inl rfl | exact Or.inr rfl) (pe_op op_mod (pe_op op_mul (pe_op op_add (pe_op op_add (pv 0) (pe_op op_mul pe_int (pv 1))) pe_int) pe_int) pe_int))
        (pss_one (ps_ret (pe_op op_mod (pe_op op_add (pe_op op_mul (pv 2) (pv 2)) (pe_op op_mul pe_int (pv 2))) pe_int)))), ?_⟩
    walk_at "rd"
    have h1 : 0 ≤ (c + 7919 * n + 11) * 48271 % 2147483647 := Int.emod_nonneg _ (by decide)
    have h2 : (c + 7919 * n + 11) * 48271 % 2147483647 < 2147483647 := Int.emod_lt_of_pos _ (by decide)
    exact ⟨.inl ⟨by omega, by omega⟩, k⟩
theorem ok_cell_at (T : TCells K mg) : FnAt P w K mg base CX0 "_law_cell_at" 2 ["_law_script", "_law_k"] (spCellAt K) := by
  have G__law_mixed : FnAt P w K mg base CX0 "_law_mixed" 1 _ spMixed := ok_mixed T
  refine fnAt_ok T.d_cell_at sc__law_cell_at (fun vs H Q E h => ?_) (fun f cdv A outer s H vs Q E hr h => ?_)
  · obtain ⟨a, ns, k, rfl, _⟩ := h; rfl
  · obtain ⟨a, ns, n, rfl, hs, h0, k⟩ := h
    refine ⟨_, (pss_cons (ps_set (i := 2) sc__law_cell_at.nd rfl (by first | exact Or.inl rfl | exact Or.inr rfl) pe_int)
        (C8.pss_cut (ps_if (pt_cmpR op_lt (pv 1) (pe_callB call_len_seq (by rfl) T.z_len PySem.boot_len (pa_cons (pv 0) pa_nil)) (nomark _)) (pss_one (ps_set (i := 2) sc__law_cell_at.nd rfl (by first | exact Or.inl rfl | exact Or.inr rfl) (pe_ix ix_list (pv 0) (pv 1) (fun _ _ => rfl)))) pss_nil)
        (pss_one (ps_ret (pe_callF G__law_mixed hr pass0 (pa_cons (pv 2) (pa_cons (pe_op op_add pe_int (pv 1)) pa_nil))))))), ?_⟩
    walk_at "rd"
    refine ⟨fun σ' H' => σ' = [some (.ref a), some (.int n), some (.int (cellAt ns n))] ∧ H' = H, ?_, ?_⟩
    · walk_at "rd"
      refine ⟨_, .inl hs, ?_⟩
      rw [List.length_map]
      unfold cellAt
      by_cases hl : n < (ns.length : Int)
      · rw [decide_eq_true hl]
        have hn : n.toNat < ns.length := by omega
        refine iteT ⟨a, _, _, .int ns[n.toNat], rfl, rfl, hs, ?_, ?_⟩
        · exact atI_int h0 (by rw [List.getElem?_map, List.getElem?_eq_getElem hn]; rfl)
        · rw [List.getD_eq_getElem?_getD, List.getElem?_eq_getElem hn]
          exact ⟨rfl, rfl⟩
      · rw [decide_eq_false hl]
        have hn : ns.length ≤ n.toNat := by omega
        refine iteF ?_
        rw [List.getD_eq_getElem?_getD, List.getElem?_eq_none hn]
        rfl
    rintro σ' H' ⟨rfl, rfl⟩
    walk_at "rd"
    exact ⟨_, _, rfl, k _ (mixed_nn _ _) (mixed_lt _ _) rfl⟩
end

/-! ## names unlike each other -/
abbrev s__law_names : Stmt := top 31
theorem sc__law_names : FnScope ["_law_cell", "_law_many", "_law_some", "_law_words", "_law_size", "_law_place", "_law_names_here", "_law_k", "_law_letter", "_law_word", "_law_at", "_law_some_words", "_law_turn"] ["_law_cell", "_law_many"] (defScope s__law_names) := ⟨rfl, rfl, rfl, by decide +kernel, rfl, by decide +kernel, by decide +kernel⟩
structure TNames2 (K : PySem.W.Frag) (mg : Str → Option Value) : Prop where
  cells : TCells K mg
  d_names : DefAt K mg "_law_names" s__law_names ["_law_cell", "_law_many"]
  z_range : mg "range" = none
  z_int : mg "int" = none
/-- names, none twice -/
structure NamesU (H : Hp) (p : Addr) (ns : List Str) (m : Nat) : Prop where
  at_ : H p = some (.lst (ns.map V.str))
  len : ns.length = m
  ok : ∀ n ∈ ns, isName n = true
  nd : ns.Nodup
def spNames : Sp := fun vs H Q _ => ∃ c m : Int, vs = [.int c, .int m] ∧ 0 ≤ c ∧ 0 ≤ m ∧ m ≤ 20 ∧ ∀ (H' : Hp) (p : Addr) (ns : List Str), Same H H' → H p = none → NamesU H' p ns m.toNat → Q (.ref p) H'
/-- the word that is tried at a turn -/
def cand (j t : Nat) : Str := mkS [122, 97 + t % 26, 97 + (j + t) % 26]
theorem cand_word (j t : Nat) : isWord (cand j t) = true ∧ (cand j t).length ≤ 8 := by
  have h1 := Nat.mod_lt t (show 0 < 26 by decide)
  have h2 := Nat.mod_lt (j + t) (show 0 < 26 by decide)
  refine ⟨?_, by simp [cand, mkS_len]⟩
  unfold isWord cand
  rw [tl_mkS]
  simp [isLow]
  omega
theorem kept_z : ∀ z ∈ keptL, z.cps.toList.head? ≠ some 122 := by decide +kernel
theorem cand_free (j t : Nat) : cand j t ∉ keptL := fun h => kept_z _ h (by unfold cand; rw [tl_mkS]; rfl)
theorem cand_ne {j a b : Nat} (h : a < b) (hb : b < 26) : cand j a ≠ cand j b := fun e => by
  have := mkS_inj e
  simp at this
  omega
/-- so many unlike things stand in a list that is at least as long -/
theorem pigeons (f : Nat → Str) : ∀ (t : Nat) (L : List Str), (∀ i, i < t → f i ∈ L) → (∀ i k, i < k → k < t → f i ≠ f k) → t ≤ L.length
  | 0, _, _, _ => Nat.zero_le _
  | t + 1, L, h, d => by
    have h1 := h t (Nat.lt_succ_self t)
    have h2 := pigeons f t (L.erase (f t)) (fun i hi => (List.mem_erase_of_ne (d i t hi (Nat.lt_succ_self t))).mpr (h i (by omega))) fun i k a b => d i k a (by omega)
    have h3 := List.length_erase_of_mem h1
    have h4 := List.length_pos_of_mem h1
    omega
def moreL : List Str := ["note", "knot", "orb", "motor", "onx", "moon", "settle", "asset", "andy", "band", "timers", "offer", "boff", "resets", "innot", "order"]
theorem more_ok : ∀ z ∈ moreL, isWord z = true ∧ z.length ≤ 8 := by decide +kernel
theorem word_name {z : Str} (h : isWord z = true) (hl : z.length ≤ 8) (hk : z ∉ keptL) : isName z = true := by
  unfold isName
  rw [h, decide_eq_true hl, decide_eq_false hk]
  rfl
section
variable {P : Program} {w : World} {K : PySem.W.Frag} {mg : Str → Option Value} {base : Heap}
theorem ok_names (T : TNames2 K mg) : FnAt P w K mg base CX0 "_law_names" 2 ["_law_cell", "_law_many"] spNames := by
  have G__law_mixed : FnAt P w K mg base CX0 "_law_mixed" 1 _ spMixed := ok_mixed T.cells
  refine fnAt_ok T.d_names sc__law_names (fun vs H Q E h => ?_) (fun f cdv A outer s H vs Q E hr h => ?_)
  · obtain ⟨c, m, rfl, _⟩ := h; rfl
  · obtain ⟨c, m, rfl, hc, hm0, hm1, k⟩ := h
    refine ⟨_, (pss_cons (ps_set (i := 2) sc__law_names.nd rfl (by first | exact Or.inl rfl | exact Or.inr rfl) pe_str)
        (pss_cons (ps_set (i := 3) sc__law_names.nd rfl (by first | exact Or.inl rfl | exact Or.inr rfl) (pe_tup (pa_cons pe_str (pa_cons pe_str (pa_cons pe_str (pa_cons pe_str (pa_cons pe_str (pa_cons pe_str (pa_cons pe_str (pa_cons pe_str (pa_cons pe_str (pa_cons pe_str (pa_cons pe_str pa_nil)))))))))))))
        (pss_cons (ps_set (i := 4) sc__law_names.nd rfl (by first | exact Or.inl rfl | exact Or.inr rfl) (pe_op op_add pe_int (pe_op op_mod (pv 0) pe_int)))
        (pss_cons (ps_set (i := 5) sc__law_names.nd rfl (by first | exact Or.inl rfl | exact Or.inr rfl) (pe_op op_mod (pe_callF G__law_mixed hr pass0 (pa_cons (pv 0) (pa_cons pe_int pa_nil))) (pv 4)))
        (pss_cons (ps_set (i := 6) sc__law_names.nd rfl (by first | exact Or.inl rfl | exact Or.inr rfl) (pe_lst pa_nil))
        (pss_cons (ps_for PassesOwn.never rfl (pi_range1 rfl T.z_range (pa_cons (pv 1) pa_nil)) (pg_name (i := 7) sc__law_names.nd rfl (by first | exact Or.inl rfl | exact Or.inr rfl)) (pss_cons (ps_set (i := 8) sc__law_names.nd rfl (by first | exact Or.inl rfl | exact Or.inr rfl) (pe_ix ix_str (pv 2) (pe_op op_mod (pe_op op_add (pe_callF G__law_mixed hr pass0 (pa_cons (pv 0) (pa_cons pe_int pa_nil))) (pe_op op_mul pe_int (pv 7))) pe_int) (fun _ _ => rfl)))
          (pss_cons (ps_set (i := 9) sc__law_names.nd rfl (by first | exact Or.inl rfl | exact Or.inr rfl) pe_str)
          (pss_cons (ps_for PassesOwn.never rfl (pi_range1 rfl T.z_range (pa_cons (pv 4) pa_nil)) (pg_name (i := 10) sc__law_names.nd rfl (by first | exact Or.inl rfl | exact Or.inr rfl)) (pss_one (ps_set (i := 9) sc__law_names.nd rfl (by first | exact Or.inl rfl | exact Or.inr rfl) (pe_op op_add_str (pv 9) (pe_ix ix_list (pe_lst (pa_cons (pe_ix ix_str (pv 2) (pe_op op_mod (pe_callF G__law_mixed hr pass0 (pa_cons (pv 0) (pa_cons (pv 10) pa_nil))) pe_int) (fun _ _ => rfl)) (pa_cons (pv 8) pa_nil))) (pe_callTy call_int1 (by rfl) T.z_int (by decide +kernel) (pa_cons (pe_cmpR op_eq (pv 10) (pv 5) (nomark _)) pa_nil)) (fun _ _ => rfl))))))
          (C8.pss_cut (ps_if (PW.pt (pw_and (pt_cmpR op_eq (pe_op op_mod (pe_op op_fdiv (pv 0) pe_int) pe_int) pe_int (nomark _)) (pw_and1 (pt_cmpR op_lt (pv 7) pe_int (nomark _))))) (pss_cons (ps_set (i := 11) sc__law_names.nd rfl (by first | exact Or.inl rfl | exact Or.inr rfl) (pe_lst (pa_cons pe_str (pa_cons pe_str (pa_cons pe_str (pa_cons pe_str (pa_cons pe_str (pa_cons pe_str (pa_cons pe_str (pa_cons pe_str (pa_cons pe_str (pa_cons pe_str (pa_cons pe_str pa_nil)))))))))))))
            (pss_cons (ps_set (i := 11) sc__law_names.nd rfl (by first | exact Or.inl rfl | exact Or.inr rfl) (pe_op op_cat (pv 11) (pe_lst (pa_cons pe_str (pa_cons pe_str (pa_cons pe_str (pa_cons pe_str (pa_cons pe_str pa_nil))))))))
            (pss_one (ps_set (i := 9) sc__law_names.nd rfl (by first | exact Or.inl rfl | exact Or.inr rfl) (pe_ix ix_list (pv 11) (pe_op op_mod (pe_op op_add (pv 7) (pe_op op_fdiv (pv 0) pe_int)) pe_int) (fun _ _ => rfl)))))) pss_nil)
          (pss_cons (ps_set (i := 12) sc__law_names.nd rfl (by first | exact Or.inl rfl | exact Or.inr rfl) pe_int)
          (pss_cons (ps_while PassesOwn.never (PW.pt (pw_or (pt_cmpR op_in_seq (pv 9) (pv 6) rfl) (pw_or1 (pt_cmpR op_in_seq (pv 9) (pv 3) rfl)))) (pss_cons (ps_aug (i := 12) sc__law_names.nd rfl (by first | exact Or.inl rfl | exact Or.inr rfl) pe_int iop_add)
            (pss_one (ps_set (i := 9) sc__law_names.nd rfl (by first | exact Or.inl rfl | exact Or.inr rfl) (pe_op op_add_str (pe_op op_add_str pe_str (pe_ix ix_str (pv 2) (pe_op op_mod (pv 12) pe_int) (fun _ _ => rfl))) (pe_ix ix_str (pv 2) (pe_op op_mod (pe_op op_add (pv 7) (pv 12)) pe_int) (fun _ _ => rfl)))))))
          (pss_one (ps_expr (pe_bm PySem.F.plainAttrs_list PySem.F.slot_list_append PySem.F.type_list_append mt_append (pv 6) (pa_cons (pv 9) pa_nil)))))))))))
        (pss_one (ps_ret (pv 6))))))))), ?_⟩
    walk_at "rd"
    have hpl0 := mixed_nn c 50
    have hsz : 0 ≤ c % 8 ∧ c % 8 < 8 := ⟨Int.emod_nonneg _ (by decide), Int.emod_lt_of_pos _ (by decide)⟩
    refine ⟨line_ge (by simp), fun p np => ?_⟩
    have s0 : Same H (upd H p (.tup keptV)) := Same.new np
    have hp0 : upd H p (.tup keptV) p = some (.tup keptV) := upd_same
    show spMixed [V.int c, V.int 50] (upd H p (.tup keptV)) _ _
    generalize upd H p (.tup keptV) = H0 at s0 hp0 ⊢
    refine ⟨_, _, rfl, _, rfl, by omega, Nat.zero_le _, fun q nq => ?_⟩
    generalize mixed c 50 % (1 + c % 8) = pl
    refine ⟨_, rfl, m, rfl, by omega, by omega, for_range (lo := 0) (n := m.toNat) (fun j σ H' => ∃ (v7 v8 v9 v10 v11 v12 : Option V) (ns : List Str), σ = [some (.int c), some (.int m), some (.str ("abcdefghijklmnopqrstuvwxyz" : Str)), some (.ref p), some (.int (1 + c % 8)), some (.int pl), some (.ref q), v7, v8, v9, v10, v11, v12] ∧ Same H0 H' ∧ NamesU H' q ns j)
      ⟨none, none, none, none, none, none, [], rfl, Same.new nq, ⟨upd_same, rfl, by simp, by simp⟩⟩ ?_ ?_⟩
    · rintro j σ H1 hj ⟨v7, v8, v9, v10, v11, v12, ns, rfl, s1, hN⟩
      have hjm : j < 20 := by omega
      walk_at "rd"
      have e0 := Int.emod_nonneg (mixed c 51 + 5 * (0 + (j : Int))) (show (26 : Int) ≠ 0 by decide)
      have e1 := Int.emod_lt_of_pos (mixed c 51 + 5 * (0 + (j : Int))) (show (0 : Int) < 26 by decide)
      refine ⟨_, _, rfl, _, rfl, line_ge (by decide +kernel), _, letters_at e0 e1, ?_⟩
      have hx : 97 ≤ 97 + ((mixed c 51 + 5 * (0 + (j : Int))) % 26).toNat ∧ 97 + ((mixed c 51 + 5 * (0 + (j : Int))) % 26).toNat ≤ 122 := by omega
      generalize 97 + ((mixed c 51 + 5 * (0 + (j : Int))) % 26).toNat = x at hx
      refine ⟨_, rfl, _, rfl, by omega, by omega, for_range (lo := 0) (n := (1 + c % 8).toNat) (fun i σ H' => ∃ (v10 : Option V) (l : List Nat), σ = [some (.int c), some (.int m), some (.str ("abcdefghijklmnopqrstuvwxyz" : Str)), some (.ref p), some (.int (1 + c % 8)), some (.int pl), some (.ref q), some (.int (0 + (j : Int))), some (.str ⟨#[x]⟩), some (.str (mkS l)), v10, v11, v12] ∧ Same H1 H' ∧ l.length = i ∧ ∀ y ∈ l, 97 ≤ y ∧ y ≤ 122)
        ⟨v10, [], by rw [empty_mk], Same.refl _, rfl, by simp⟩ ?_ ?_⟩
      · rintro i σ H2 hi ⟨v10, l, rfl, s2, hl, hlow⟩
        walk_at "rd"
        have f0 := Int.emod_nonneg (mixed c (0 + (i : Int))) (show (26 : Int) ≠ 0 by decide)
        have f1 := Int.emod_lt_of_pos (mixed c (0 + (i : Int))) (show (0 : Int) < 26 by decide)
        refine ⟨_, _, rfl, _, rfl, line_ge (by decide +kernel), _, letters_at f0 f1, line_ge (by simp), fun z nz => ?_⟩
        have hy : 97 ≤ 97 + ((mixed c (0 + (i : Int))) % 26).toNat ∧ 97 + ((mixed c (0 + (i : Int))) % 26).toNat ≤ 122 := by omega
        have sn := Same.new (o := .lst [.str ⟨#[97 + ((mixed c (0 + (i : Int))) % 26).toNat]⟩, .str ⟨#[x]⟩]) nz
        generalize 97 + ((mixed c (0 + (i : Int))) % 26).toNat = ya at hy sn ⊢
        obtain ⟨u, hu1, hur⟩ : ∃ u, (97 ≤ u ∧ u ≤ 122) ∧ atI [V.str ⟨#[ya]⟩, .str ⟨#[x]⟩] (if decide (0 + (i : Int) = pl) = true then 1 else 0) = some (.str ⟨#[u]⟩) := by
          by_cases hd : 0 + (i : Int) = pl
          · rw [decide_eq_true hd]
            exact ⟨x, hx, rfl⟩
          · rw [decide_eq_false hd]
            exact ⟨ya, hy, rfl⟩
        refine ⟨z, _, _, .str ⟨#[u]⟩, rfl, rfl, SqL.of upd_same, hur, ⟨#[u]⟩, rfl, line_ge ?_, _, l ++ [u], ⟨?_, rfl⟩, s2.trans sn, by simp [hl], ?_⟩
        · rw [mkS_one, mkS_len, mkS_len]
          simp
          omega
        · rw [mkS_one, mkS_app]
        · intro y hm
          rcases List.mem_append.mp hm with hm | hm
          · exact hlow y hm
          · rw [List.mem_singleton.mp hm]
            exact hu1
      rintro σ H2 ⟨v10, l, rfl, s2, hl, hlow⟩
      have hN2 : NamesU H2 q ns j := ⟨s2 _ _ hN.at_, hN.len, hN.ok, hN.nd⟩
      have s12 := s1.trans s2
      refine ⟨fun σ' H' => ∃ (v11 : Option V) (z : Str), σ' = [some (.int c), some (.int m), some (.str ("abcdefghijklmnopqrstuvwxyz" : Str)), some (.ref p), some (.int (1 + c % 8)), some (.int pl), some (.ref q), some (.int (0 + (j : Int))), some (.str ⟨#[x]⟩), some (.str z), v10, v11, v12] ∧ Same H2 H' ∧ isWord z = true ∧ z.length ≤ 8, ?_, ?_⟩
      · have hw : isWord (mkS l) = true := by
          unfold isWord
          rw [tl_mkS]
          have e1 : l.all isLow = true := List.all_eq_true.mpr fun y hy => by
            unfold isLow
            exact decide_eq_true (hlow y hy)
          have e2 : l.isEmpty = false := by
            cases l with
            | nil => simp at hl; omega
            | cons => rfl
          rw [e1, e2]
          rfl
        have hwl : (mkS l).length ≤ 8 := by rw [mkS_len]; omega
        walk_at "rd"
        refine ite2 (fun _ => ite2 (fun _ => ⟨line_ge (by simp), fun z1 n1 => ⟨line_ge (by simp), fun z2 n2 => ?_⟩⟩) (fun _ => ⟨_, mkS l, ⟨rfl, rfl⟩, Same.refl _, hw, hwl⟩)) (fun _ => ⟨_, mkS l, ⟨rfl, rfl⟩, Same.refl _, hw, hwl⟩)
        have g1 := Same.new (o := .lst [.str "note", .str "knot", .str "orb", .str "motor", .str "onx", .str "moon", .str "settle", .str "asset", .str "andy", .str "band", .str "timers"]) n1
        have g2 := g1.trans (Same.new (o := .lst [.str "offer", .str "boff", .str "resets", .str "innot", .str "order"]) n2)
        refine ⟨z1, z2, _, _, rfl, rfl, Same.new n2 _ _ upd_same, upd_same, line_ge (by simp), fun z3 n3 => ?_⟩
        obtain ⟨y, hy, hya⟩ := atI_ex (xs := moreL.map V.str) (i := (0 + (j : Int) + c / 24) % 16) (Int.emod_nonneg _ (by decide)) (Int.emod_lt_of_pos _ (by decide))
        obtain ⟨u, hu1, rfl⟩ := List.mem_map.mp hy
        obtain ⟨u1, u2⟩ := more_ok u hu1
        exact ⟨z3, _, _, .str u, rfl, rfl, SqL.of upd_same, hya, _, u, ⟨rfl, rfl⟩, g2.trans (Same.new n3), u1, u2⟩
      rintro σ' H3 ⟨v11, z, rfl, s3, hz, hzl⟩
      walk_at "rd"
      have hN3 : H3 q = some (.lst (ns.map V.str)) := s3 _ _ hN2.at_
      have hp3 : H3 p = some (.tup keptV) := (s12.trans s3) _ _ hp0
      refine ⟨fun mm σ H' => ∃ (t : Nat) (z : Str), σ = [some (.int c), some (.int m), some (.str ("abcdefghijklmnopqrstuvwxyz" : Str)), some (.ref p), some (.int (1 + c % 8)), some (.int pl), some (.ref q), some (.int (0 + (j : Int))), some (.str ⟨#[x]⟩), some (.str z), v10, v11, some (.int (t : Int))] ∧ H' = H3 ∧ isWord z = true ∧ z.length ≤ 8 ∧ (∀ i, i + 1 < t → cand j (i + 1) ∈ ns) ∧ (∀ i, t = i + 1 → z = cand j (i + 1)) ∧ mm = 30 - t ∧ t ≤ 21,
        ⟨30, 0, z, rfl, rfl, hz, hzl, fun i hi => by omega, fun i hi => by omega, rfl, by omega⟩, ?_⟩
      rintro mm σ H' ⟨t, z, rfl, rfl, hz, hzl, h1, h2, rfl, ht⟩
      walk_at "rd"
      have nxt : (z ∈ ns ∨ z ∈ keptL) → (∀ i, i + 1 < t + 1 → cand j (i + 1) ∈ ns) ∧ t + 1 ≤ 21 := by
        intro hz'
        have hall : ∀ i, i + 1 < t + 1 → cand j (i + 1) ∈ ns := by
          intro i hi
          by_cases he : i + 1 = t
          · have e := h2 i he.symm
            rw [← e]
            rcases hz' with h | h
            · exact h
            · rw [e] at h
              exact absurd h (cand_free j (i + 1))
          · exact h1 i (by omega)
        refine ⟨hall, ?_⟩
        have := pigeons (fun i => cand j (i + 1)) t ns (fun i hi => hall i (by omega)) fun i k hik hk => cand_ne (by omega) (by omega)
        have := hN.len
        omega
      have a0 := Int.emod_nonneg ((t : Int) + 1) (show (26 : Int) ≠ 0 by decide)
      have a1 := Int.emod_lt_of_pos ((t : Int) + 1) (show (0 : Int) < 26 by decide)
      have b0 := Int.emod_nonneg (0 + (j : Int) + ((t : Int) + 1)) (show (26 : Int) ≠ 0 by decide)
      have b1 := Int.emod_lt_of_pos (0 + (j : Int) + ((t : Int) + 1)) (show (0 : Int) < 26 by decide)
      have ecand : ("z" : Str) ++ ⟨#[97 + (((t : Int) + 1) % 26).toNat]⟩ ++ ⟨#[97 + ((0 + (j : Int) + ((t : Int) + 1)) % 26).toNat]⟩ = cand j (t + 1) := by
        have ez : ("z" : Str) = mkS [122] := by decide +kernel
        have q1 : 97 + (((t : Int) + 1) % 26).toNat = 97 + (t + 1) % 26 := by omega
        have q2 : 97 + ((0 + (j : Int) + ((t : Int) + 1)) % 26).toNat = 97 + (j + (t + 1)) % 26 := by omega
        rw [ez, mkS_one, mkS_one, mkS_app, mkS_app, q1, q2]
        rfl
      have zl : ("z" : Str).length = 1 := by decide +kernel
      refine ⟨q, _, rfl, .inl (SqL.of hN3), rfl, flat_strs _, ?_⟩
      rw [if_neg Bool.false_ne_true, inV_strs]
      by_cases hm : z ∈ ns
      · rw [decide_eq_true hm]
        refine ⟨true, rfl, iteT ?_⟩
        exact ⟨_, fun σ' H' h => h, line_ge (by decide +kernel), _, letters_at a0 a1, line_ge (by rw [zl]; show 1 + 1 ≤ _; omega), line_ge (by decide +kernel), _, letters_at b0 b1, line_ge (by rw [len_app, zl]; show 1 + 1 + 1 ≤ _; omega), 30 - (t + 1), by omega, t + 1, cand j (t + 1), by rw [← ecand, show (((t + 1 : Nat) : Int)) = (t : Int) + 1 by omega], rfl, (cand_word j (t + 1)).1, (cand_word j (t + 1)).2, (nxt (.inl hm)).1, fun i hi => by rw [show i = t by omega], rfl, (nxt (.inl hm)).2⟩
      · rw [decide_eq_false hm]
        refine ⟨false, rfl, iteF ⟨p, keptV, rfl, .inr (SqT.of hp3), rfl, flat_strs _, ?_⟩⟩
        rw [if_neg Bool.false_ne_true, show inV (.str z) keptV = decide (z ∈ keptL) from inV_strs z keptL]
        by_cases hk : z ∈ keptL
        · rw [decide_eq_true hk]
          refine ⟨true, rfl, iteT ?_⟩
          exact ⟨_, fun σ' H' h => h, line_ge (by decide +kernel), _, letters_at a0 a1, line_ge (by rw [zl]; show 1 + 1 ≤ _; omega), line_ge (by decide +kernel), _, letters_at b0 b1, line_ge (by rw [len_app, zl]; show 1 + 1 + 1 ≤ _; omega), 30 - (t + 1), by omega, t + 1, cand j (t + 1), by rw [← ecand, show (((t + 1 : Nat) : Int)) = (t : Int) + 1 by omega], rfl, (cand_word j (t + 1)).1, (cand_word j (t + 1)).2, (nxt (.inr hk)).1, fun i hi => by rw [show i = t by omega], rfl, (nxt (.inr hk)).2⟩
        · rw [decide_eq_false hk]
          refine ⟨false, rfl, iteF ?_⟩
          refine ⟨_, rfl, .inl ⟨rfl, _, SqL.of hN3⟩, _, rfl, q, ns.map V.str, _, rfl, rfl, hN3, ?_, _, _, _, _, _, _, ⟨rfl, rfl, rfl, rfl, rfl, rfl⟩, Same.mut (s12.trans s3) nq, ns ++ [z], ?_, ?_, ?_, ?_⟩
          · rw [List.length_map, hN.len]
            exact small1000 (by omega)
          · rw [upd_same, List.map_append]
            rfl
          · rw [List.length_append, hN.len]
            rfl
          · intro n hn
            rcases List.mem_append.mp hn with hn | hn
            · exact hN.ok n hn
            · rw [List.mem_singleton.mp hn]
              exact word_name hz hzl hk
          · rw [List.nodup_append]
            refine ⟨hN.nd, by simp, fun a ha b hb => ?_⟩
            rw [List.mem_singleton.mp hb]
            rintro rfl
            exact hm ha
    · rintro σ H1 ⟨v7, v8, v9, v10, v11, v12, ns, rfl, s1, hN⟩
      walk_at "rd"
      exact k _ q ns (s0.trans s1) (s0.free nq) hN
end

/-! ## the classes of errors -/
structure Xc where
  err : Addr
  name : Addr
  part : Addr
  end_ : Addr
  ladder : Addr
  text : Addr
  row : Addr
  sheet : Addr
  state : Addr
  match_ : Addr
  many : Addr

/-! ## how a law tells an error: ten marks -/
abbrev s__law_kind : Stmt := top 32
theorem sc__law_kind : FnScope ["_law_e", "_law_marks"] ["_law_e"] (defScope s__law_kind) := ⟨rfl, rfl, rfl, by decide +kernel, rfl, by decide +kernel, by decide +kernel⟩
inductive Xk where
  | name | part | end_ | ladder | text | row | sheet | state | match_ | many
deriving DecidableEq
def Xc.at (xc : Xc) : Xk → Addr
  | .name => xc.name
  | .part => xc.part
  | .end_ => xc.end_
  | .ladder => xc.ladder
  | .text => xc.text
  | .row => xc.row
  | .sheet => xc.sheet
  | .state => xc.state
  | .match_ => xc.match_
  | .many => xc.many
def Xk.str : Xk → Str
  | .name => "name"
  | .part => "part"
  | .end_ => "end"
  | .ladder => "ladder"
  | .text => "text"
  | .row => "row"
  | .sheet => "sheet"
  | .state => "state"
  | .match_ => "match"
  | .many => "many"
structure TKind2 (K : PySem.W.Frag) (mg : Str → Option Value) (xc : Xc) : Prop where
  e_err : ErrAt K mg "LadderError" xc.err
  e_name : ExcAt K mg "NoName" xc.name xc.err
  e_part : ExcAt K mg "NoPart" xc.part xc.err
  e_end : ExcAt K mg "NoEnd" xc.end_ xc.err
  e_ladder : ExcAt K mg "NoLadder" xc.ladder xc.err
  e_text : ExcAt K mg "NoText" xc.text xc.err
  e_row : ExcAt K mg "NoRow" xc.row xc.err
  e_sheet : ExcAt K mg "NoSheet" xc.sheet xc.err
  e_state : ExcAt K mg "NoState" xc.state xc.err
  e_match : ExcAt K mg "NoMatch" xc.match_ xc.err
  e_many : ExcAt K mg "TooMany" xc.many xc.err
  ndx : [xc.err, xc.name, xc.part, xc.end_, xc.ladder, xc.text, xc.row, xc.sheet, xc.state, xc.match_, xc.many].Nodup
  d_kind : DefAt K mg "_law_kind" s__law_kind ["_law_e"]
  z_isinstance : mg "isinstance" = none
  z_ValueError : mg "ValueError" = none
def spKind2 (xc : Xc) (a : Addr) (c : Value) (d : Option Addr) : Sp := fun vs H Q _ => ∃ b : Xk, vs = [.ref a] ∧ c = .ref (xc.at b) ∧ d = none ∧ ∀ H', Same H H' → Q (.str b.str) H'
section
variable {P : Program} {w : World} {K : PySem.W.Frag} {mg : Str → Option Value} {base : Heap} {xc : Xc}
theorem TKind2.of (T : TKind2 K mg xc) (b : Xk) : ∃ x, ExcAt K mg x (xc.at b) xc.err := by
  cases b
  · exact ⟨_, T.e_name⟩
  · exact ⟨_, T.e_part⟩
  · exact ⟨_, T.e_end⟩
  · exact ⟨_, T.e_ladder⟩
  · exact ⟨_, T.e_text⟩
  · exact ⟨_, T.e_row⟩
  · exact ⟨_, T.e_sheet⟩
  · exact ⟨_, T.e_state⟩
  · exact ⟨_, T.e_match⟩
  · exact ⟨_, T.e_many⟩
theorem TKind2.err (T : TKind2 K mg xc) (b : Xk) : xc.at b ≠ xc.err := by
  have nd := T.ndx
  simp only [List.nodup_cons, List.mem_cons, List.not_mem_nil, or_false, not_or] at nd
  intro e
  cases b <;> simp only [Xc.at] at e <;> simp_all
theorem TKind2.inj (T : TKind2 K mg xc) (a b : Xk) (h : xc.at a = xc.at b) : a = b := by
  have nd := T.ndx
  simp only [List.nodup_cons, List.mem_cons, List.not_mem_nil, or_false, not_or] at nd
  cases a <;> cases b <;> first | rfl | (exfalso; simp only [Xc.at] at h; simp_all)
theorem TKind2.kit (T : TKind2 K mg xc) (a b : Xk) : PySem.W.kitOne K (.ref (xc.at a)) (.ref (xc.at b)) = some (decide (a = b)) := by
  obtain ⟨x, h1⟩ := T.of a
  obtain ⟨y, h2⟩ := T.of b
  rw [h1.kit h2 ⟨T.err a, T.err b⟩]
  congr 1
  by_cases h : a = b
  · rw [decide_eq_true h, h, decide_eq_true rfl]
  · rw [decide_eq_false h, decide_eq_false fun e => h (T.inj a b e)]
def marksL (b : Xk) : List V := ([.bl (decide (b = .name)), .bl (decide (b = .part)), .bl (decide (b = .end_)), .bl (decide (b = .ladder))] ++ [.bl (decide (b = .text)), .bl (decide (b = .row)), .bl (decide (b = .sheet)), .bl (decide (b = .state))]) ++ [.bl (decide (b = .match_)), .bl (decide (b = .many))]
def Xk.ix : Xk → Nat
  | .name => 0
  | .part => 1
  | .end_ => 2
  | .ladder => 3
  | .text => 4
  | .row => 5
  | .sheet => 6
  | .state => 7
  | .match_ => 8
  | .many => 9
theorem marks_cnt (b : Xk) : (marksL b).countP (fun z => eqV z (.bl true)) = 1 := by cases b <;> rfl
theorem marks_flat (b : Xk) : (marksL b).all flatV = true := by cases b <;> rfl
theorem marks_at (b : Xk) : (marksL b)[b.ix]? = some (.bl true) := by cases b <;> rfl
theorem marks_no (b : Xk) : ∀ (m : Nat) (z : V), m < b.ix → (marksL b)[m]? = some z → eqV z (.bl true) = false := by
  have h : ∀ b : Xk, ∀ m < b.ix, (marksL b)[m]? = some (.bl false) := by
    intro b
    cases b <;> decide +kernel
  intro m z hm hz
  rw [h b m hm] at hz
  cases hz
  rfl
def kindL : List Str := ["name", "part", "end", "ladder", "text", "row", "sheet", "state", "match", "many"]
theorem kind_at (b : Xk) : atI (kindL.map V.str) ((b.ix : Nat) : Int) = some (.str b.str) := by cases b <;> rfl
theorem ok_kind2 (T : TKind2 K mg xc) : FnPAt P w K mg base CX0 "_law_kind" 1 ["_law_e"] (spKind2 xc) := by
  have e_NoName := T.e_name
  have e_NoPart := T.e_part
  have e_NoEnd := T.e_end
  have e_NoLadder := T.e_ladder
  have e_NoMatch := T.e_match
  have e_NoRow := T.e_row
  have e_NoSheet := T.e_sheet
  have e_NoState := T.e_state
  have e_NoText := T.e_text
  have e_TooMany := T.e_many
  refine fnPAt_ok T.d_kind sc__law_kind (fun a c d vs H Q E h => ?_) (fun f cdv A outer s H vs Q E p c d hz hf hr h => ?_)
  · obtain ⟨b, rfl, _⟩ := h; rfl
  · obtain ⟨b, rfl, rfl, rfl, k⟩ := h
    obtain ⟨xn, ex⟩ := T.of b
    have hex := ex.is_
    have hp : p ∈ [p] := List.mem_singleton.mpr rfl
    refine ⟨_, (pss_cons (ps_set (i := 1) sc__law_kind.nd rfl (by first | exact Or.inl rfl | exact Or.inr rfl) (pe_lst (pa_cons (pe_callB (call_isP hex hz hf hp) (by rfl) T.z_isinstance (by decide +kernel) (pa_cons (pv 0) (pa_cons (pe_exc e_NoName) pa_nil))) (pa_cons (pe_callB (call_isP hex hz hf hp) (by rfl) T.z_isinstance (by decide +kernel) (pa_cons (pv 0) (pa_cons (pe_exc e_NoPart) pa_nil))) (pa_cons (pe_callB (call_isP hex hz hf hp) (by rfl) T.z_isinstance (by decide +kernel) (pa_cons (pv 0) (pa_cons (pe_exc e_NoEnd) pa_nil))) (pa_cons (pe_callB (call_isP hex hz hf hp) (by rfl) T.z_isinstance (by decide +kernel) (pa_cons (pv 0) (pa_cons (pe_exc e_NoLadder) pa_nil))) pa_nil))))))
        (pss_cons (ps_set (i := 1) sc__law_kind.nd rfl (by first | exact Or.inl rfl | exact Or.inr rfl) (pe_op op_cat (pv 1) (pe_lst (pa_cons (pe_callB (call_isP hex hz hf hp) (by rfl) T.z_isinstance (by decide +kernel) (pa_cons (pv 0) (pa_cons (pe_exc e_NoText) pa_nil))) (pa_cons (pe_callB (call_isP hex hz hf hp) (by rfl) T.z_isinstance (by decide +kernel) (pa_cons (pv 0) (pa_cons (pe_exc e_NoRow) pa_nil))) (pa_cons (pe_callB (call_isP hex hz hf hp) (by rfl) T.z_isinstance (by decide +kernel) (pa_cons (pv 0) (pa_cons (pe_exc e_NoSheet) pa_nil))) (pa_cons (pe_callB (call_isP hex hz hf hp) (by rfl) T.z_isinstance (by decide +kernel) (pa_cons (pv 0) (pa_cons (pe_exc e_NoState) pa_nil))) pa_nil)))))))
        (pss_cons (ps_set (i := 1) sc__law_kind.nd rfl (by first | exact Or.inl rfl | exact Or.inr rfl) (pe_op op_cat (pv 1) (pe_lst (pa_cons (pe_callB (call_isP hex hz hf hp) (by rfl) T.z_isinstance (by decide +kernel) (pa_cons (pv 0) (pa_cons (pe_exc e_NoMatch) pa_nil))) (pa_cons (pe_callB (call_isP hex hz hf hp) (by rfl) T.z_isinstance (by decide +kernel) (pa_cons (pv 0) (pa_cons (pe_exc e_TooMany) pa_nil))) pa_nil)))))
        (pss_cons (ps_if (PW.pt (pw_or (pt_cmpR op_ne (pe_bm PySem.F.plainAttrs_list PySem.F.slot_list_count PySem.F.type_list_count mt_countF (pv 1) (pa_cons pe_bl pa_nil)) pe_int (nomark _)) (pw_or1 (pt_not (pt_val (pe_callB (call_isP hex hz hf hp) (by rfl) T.z_isinstance (by decide +kernel) (pa_cons (pv 0) (pa_cons (pe_bltn (v := .ty "ValueError") (by rfl) T.z_ValueError (by decide +kernel) rfl) pa_nil)))))))) (pss_one (ps_ret pe_str)) pss_nil)
        (pss_one (ps_ret (pe_ix ix_list (pe_lst (pa_cons pe_str (pa_cons pe_str (pa_cons pe_str (pa_cons pe_str (pa_cons pe_str (pa_cons pe_str (pa_cons pe_str (pa_cons pe_str (pa_cons pe_str (pa_cons pe_str pa_nil))))))))))) (pe_bm PySem.F.plainAttrs_list PySem.F.slot_list_index PySem.F.type_list_index mt_index (pv 1) (pa_cons pe_bl pa_nil)) (fun _ _ => rfl)))))))), ?_⟩
    walk_at "rd"
    refine ⟨(.ref xc.name), (.ref xc.name), _, rfl, fun u r => r, T.kit b .name, (.ref xc.part), (.ref xc.part), _, rfl, fun u r => r, T.kit b .part, (.ref xc.end_), (.ref xc.end_), _, rfl, fun u r => r, T.kit b .end_, (.ref xc.ladder), (.ref xc.ladder), _, rfl, fun u r => r, T.kit b .ladder, line_ge (by simp), fun l1 n1 => ⟨(.ref xc.text), (.ref xc.text), _, rfl, fun u r => r, T.kit b .text, (.ref xc.row), (.ref xc.row), _, rfl, fun u r => r, T.kit b .row, (.ref xc.sheet), (.ref xc.sheet), _, rfl, fun u r => r, T.kit b .sheet, (.ref xc.state), (.ref xc.state), _, rfl, fun u r => r, T.kit b .state, line_ge (by simp), fun l2 n2 => ?_⟩⟩
    refine ⟨l1, l2, _, _, rfl, rfl, Same.new n2 _ _ upd_same, upd_same, line_ge (by simp), fun l3 n3 => ⟨(.ref xc.match_), (.ref xc.match_), _, rfl, fun u r => r, T.kit b .match_, (.ref xc.many), (.ref xc.many), _, rfl, fun u r => r, T.kit b .many, line_ge (by simp), fun l4 n4 => ⟨l3, l4, _, _, rfl, rfl, Same.new n4 _ _ upd_same, upd_same, line_ge (by simp), fun l5 n5 => ?_⟩⟩⟩
    refine ⟨_, rfl, .inl ⟨rfl, _, SqL.of upd_same⟩, l5, marksL b, _, rfl, rfl, SqL.of upd_same, rfl, marks_flat b, ?_⟩
    rw [marks_cnt]
    refine ⟨scal_ii, ?_⟩
    rw [decide_eq_true (show V.int ((1 : Nat) : Int) = V.int 1 from rfl)]
    refine iteF ⟨.ty "ValueError", .type "ValueError", true, rfl, fun u r => r, ex.kitV, true, rfl, iteF ⟨line_ge (by simp), fun l6 n6 => ?_⟩⟩
    refine ⟨_, rfl, .inl ⟨rfl, _, SqL.of (Same.new n6 _ _ upd_same)⟩, l5, marksL b, .bl true, b.ix, .bl true, rfl, rfl, SqL.of (Same.new n6 _ _ upd_same), rfl, marks_flat b, marks_at b, rfl, marks_no b, ?_⟩
    exact ⟨l6, kindL.map V.str, _, .str b.str, rfl, rfl, SqL.of upd_same, kind_at b, k _ (((((Same.new n1).trans (Same.new n2)).trans (Same.new n3)).trans ((Same.new n4).trans (Same.new n5))).trans (Same.new n6))⟩
end

/-! ## ends -/
abbrev s_End___init__ : Stmt := inClass (top 20) 0
theorem sc_End___init__ : FnScope ["self", "name"] ["self", "name"] (defScope s_End___init__) := ⟨rfl, rfl, rfl, by decide +kernel, rfl, by decide +kernel, by decide +kernel⟩
abbrev s_Counting___init__ : Stmt := inClass (top 24) 0
theorem sc_Counting___init__ : FnScope ["self", "name", "most"] ["self", "name", "most"] (defScope s_Counting___init__) := ⟨rfl, rfl, rfl, by decide +kernel, rfl, by decide +kernel, by decide +kernel⟩
abbrev s_End_ahead : Stmt := inClass (top 20) 1
theorem sc_End_ahead : FnScope ["self"] ["self"] (defScope s_End_ahead) := ⟨rfl, rfl, rfl, by decide +kernel, rfl, by decide +kernel, by decide +kernel⟩
abbrev s_Latch_ahead : Stmt := inClass (top 22) 0
theorem sc_Latch_ahead : FnScope ["self"] ["self"] (defScope s_Latch_ahead) := ⟨rfl, rfl, rfl, by decide +kernel, rfl, by decide +kernel, by decide +kernel⟩
abbrev s_Unlatch_ahead : Stmt := inClass (top 23) 0
theorem sc_Unlatch_ahead : FnScope ["self"] ["self"] (defScope s_Unlatch_ahead) := ⟨rfl, rfl, rfl, by decide +kernel, rfl, by decide +kernel, by decide +kernel⟩
abbrev s_Timer_ahead : Stmt := inClass (top 25) 0
theorem sc_Timer_ahead : FnScope ["self"] ["self"] (defScope s_Timer_ahead) := ⟨rfl, rfl, rfl, by decide +kernel, rfl, by decide +kernel, by decide +kernel⟩
abbrev s_Counter_ahead : Stmt := inClass (top 26) 0
theorem sc_Counter_ahead : FnScope ["self"] ["self"] (defScope s_Counter_ahead) := ⟨rfl, rfl, rfl, by decide +kernel, rfl, by decide +kernel, by decide +kernel⟩
abbrev s_End_behind : Stmt := inClass (top 20) 2
theorem sc_End_behind : FnScope ["self"] ["self"] (defScope s_End_behind) := ⟨rfl, rfl, rfl, by decide +kernel, rfl, by decide +kernel, by decide +kernel⟩
abbrev s_Counting_behind : Stmt := inClass (top 24) 1
theorem sc_Counting_behind : FnScope ["self"] ["self"] (defScope s_Counting_behind) := ⟨rfl, rfl, rfl, by decide +kernel, rfl, by decide +kernel, by decide +kernel⟩
abbrev s_End_text : Stmt := inClass (top 20) 3
theorem sc_End_text : FnScope ["self"] ["self"] (defScope s_End_text) := ⟨rfl, rfl, rfl, by decide +kernel, rfl, by decide +kernel, by decide +kernel⟩
inductive Ek where
  | coil | latch | unlatch | timer | counter
deriving DecidableEq
/-- the classes of ends -/
structure Ce where
  coil : Addr
  latch : Addr
  unlatch : Addr
  timer : Addr
  counter : Addr
  en : Addr
def Ce.at (ce : Ce) : Ek → Addr
  | .coil => ce.coil
  | .latch => ce.latch
  | .unlatch => ce.unlatch
  | .timer => ce.timer
  | .counter => ce.counter
def Ce.has (ce : Ce) (C : Addr) : Prop := ∃ k, C = ce.at k
def Ek.counts : Ek → Bool
  | .timer => true
  | .counter => true
  | _ => false
/-- an end: its kind, its name, its greatest count -/
structure EndC where
  k : Ek
  n : Str
  m : Int
def EndC.fs (e : EndC) : List (Str × V) := if e.k.counts then [("name", .str e.n), ("most", .int e.m)] else [("name", .str e.n)]
def IsE (ce : Ce) (H : Hp) (v : V) (e : EndC) : Prop := ∃ a dx, v = .ref a ∧ H a = some (.ins (ce.at e.k) dx e.fs)
theorem IsE.mono {ce : Ce} {H H' : Hp} {v : V} {e : EndC} (k : Imm ce.has H H') (p : IsE ce H v e) : IsE ce H' v e := by
  obtain ⟨a, dx, e1, h⟩ := p
  exact ⟨a, dx, e1, k _ _ h ⟨_, rfl⟩⟩
def Ek.ahead : Ek → Str
  | .coil => ""
  | .latch => "set "
  | .unlatch => "reset "
  | .timer => "timer "
  | .counter => "counter "
def EndC.behind (e : EndC) : Str := if e.k.counts then " " ++ (toString e.m : String) else ""
def EndC.text (e : EndC) : Str := e.k.ahead ++ e.n ++ e.behind
/-- as it may be -/
def EndC.ok (e : EndC) : Prop := isName e.n = true ∧ 1 ≤ e.m ∧ e.m ≤ 9
structure TEnds (K : PySem.W.Frag) (mg : Str → Option Value) (ce : Ce) : Prop where
  names : TNames K mg
  c_Coil : ClsAt K mg "Coil" ce.coil
  c_Latch : ClsAt K mg "Latch" ce.latch
  c_Unlatch : ClsAt K mg "Unlatch" ce.unlatch
  c_Timer : ClsAt K mg "Timer" ce.timer
  c_Counter : ClsAt K mg "Counter" ce.counter
  c_End : ClsAt K mg "End" ce.en
  nn_coil : NoAttr K ce.coil "name"
  nn_latch : NoAttr K ce.latch "name"
  nn_unlatch : NoAttr K ce.unlatch "name"
  nn_timer : NoAttr K ce.timer "name"
  nn_counter : NoAttr K ce.counter "name"
  nm_timer : NoAttr K ce.timer "most"
  nm_counter : NoAttr K ce.counter "most"
  m_ahead_coil : MethAt K ce.coil "ahead" "End.ahead" s_End_ahead ["self"]
  m_ahead_latch : MethAt K ce.latch "ahead" "Latch.ahead" s_Latch_ahead ["self"]
  m_ahead_unlatch : MethAt K ce.unlatch "ahead" "Unlatch.ahead" s_Unlatch_ahead ["self"]
  m_ahead_timer : MethAt K ce.timer "ahead" "Timer.ahead" s_Timer_ahead ["self"]
  m_ahead_counter : MethAt K ce.counter "ahead" "Counter.ahead" s_Counter_ahead ["self"]
  m_behind_coil : MethAt K ce.coil "behind" "End.behind" s_End_behind ["self"]
  m_behind_latch : MethAt K ce.latch "behind" "End.behind" s_End_behind ["self"]
  m_behind_unlatch : MethAt K ce.unlatch "behind" "End.behind" s_End_behind ["self"]
  m_behind_timer : MethAt K ce.timer "behind" "Counting.behind" s_Counting_behind ["self"]
  m_behind_counter : MethAt K ce.counter "behind" "Counting.behind" s_Counting_behind ["self"]
  m_text_coil : MethAt K ce.coil "text" "End.text" s_End_text ["self"]
  m_text_latch : MethAt K ce.latch "text" "End.text" s_End_text ["self"]
  m_text_unlatch : MethAt K ce.unlatch "text" "End.text" s_End_text ["self"]
  m_text_timer : MethAt K ce.timer "text" "End.text" s_End_text ["self"]
  m_text_counter : MethAt K ce.counter "text" "End.text" s_End_text ["self"]
  m_init_coil : MethAt K ce.coil "__init__" "End.__init__" s_End___init__ ["self", "name"]
  m_init_latch : MethAt K ce.latch "__init__" "End.__init__" s_End___init__ ["self", "name"]
  m_init_unlatch : MethAt K ce.unlatch "__init__" "End.__init__" s_End___init__ ["self", "name"]
  m_init_timer : MethAt K ce.timer "__init__" "Counting.__init__" s_Counting___init__ ["self", "name", "most"]
  m_init_counter : MethAt K ce.counter "__init__" "Counting.__init__" s_Counting___init__ ["self", "name", "most"]
  f_init : ClsFnAt K ce.en "__init__" "End.__init__" s_End___init__ ["self", "name"]
  nde : [ce.coil, ce.latch, ce.unlatch, ce.timer, ce.counter].Nodup
  z_isinstance : mg "isinstance" = none
  z_int : mg "int" = none
  z_bool : mg "bool" = none
  z_str : mg "str" = none
  g_MOST_COUNT : GlobC mg "MOST_COUNT" (.int 9)
section
variable {P : Program} {w : World} {K : PySem.W.Frag} {mg : Str → Option Value} {base : Heap} {ce : Ce} {xc : Xc}
theorem isName_len' {z : Str} (h : isName z = true) : z.length ≤ 8 := by
  unfold isName at h
  simp only [Bool.and_eq_true, decide_eq_true_eq] at h
  exact h.1.2
theorem TEnds.cls (T : TEnds K mg ce) : ∀ k : Ek, Cls K (ce.at k)
  | .coil => T.c_Coil.cl
  | .latch => T.c_Latch.cl
  | .unlatch => T.c_Unlatch.cl
  | .timer => T.c_Timer.cl
  | .counter => T.c_Counter.cl
theorem TEnds.nn (T : TEnds K mg ce) : ∀ k : Ek, NoAttr K (ce.at k) "name"
  | .coil => T.nn_coil
  | .latch => T.nn_latch
  | .unlatch => T.nn_unlatch
  | .timer => T.nn_timer
  | .counter => T.nn_counter
theorem TEnds.nm (T : TEnds K mg ce) : ∀ k : Ek, k.counts = true → NoAttr K (ce.at k) "most"
  | .timer, _ => T.nm_timer
  | .counter, _ => T.nm_counter
theorem TEnds.inj (T : TEnds K mg ce) (a b : Ek) (h : ce.at a = ce.at b) : a = b := by
  have nd := T.nde
  simp only [List.nodup_cons, List.mem_cons, List.not_mem_nil, or_false, not_or] at nd
  cases a <;> cases b <;> first | rfl | (exfalso; simp only [Ce.at] at h; simp_all)
theorem E_name (e : EndC) : List.lookup ("name" : Str) e.fs = some (.str e.n) := by
  unfold EndC.fs
  split <;> simp [List.lookup]
theorem E_most {e : EndC} (h : e.k.counts = true) : List.lookup ("most" : Str) e.fs = some (.int e.m) := by
  unfold EndC.fs
  rw [if_pos h]
  have e1 : (("most" : Str) == ("name" : Str)) = false := by decide +kernel
  simp [List.lookup, e1]
theorem E_no {m : Str} (e : EndC) (h1 : (m == ("name" : Str)) = false) (h2 : (m == ("most" : Str)) = false) : List.lookup m e.fs = none := by
  unfold EndC.fs
  split <;> simp [List.lookup, h1, h2]
theorem most_len {m : Int} (h1 : 1 ≤ m) (h2 : m ≤ 9) : (Str.ofString (toString m)).length = 1 := by
  rcases (by omega : m = 1 ∨ m = 2 ∨ m = 3 ∨ m = 4 ∨ m = 5 ∨ m = 6 ∨ m = 7 ∨ m = 8 ∨ m = 9) with rfl | rfl | rfl | rfl | rfl | rfl | rfl | rfl | rfl <;> decide +kernel
theorem most_log {m : Int} (h1 : 1 ≤ m) (h2 : m ≤ 9) : m.natAbs.log2 < 1920 := by
  rcases (by omega : m = 1 ∨ m = 2 ∨ m = 3 ∨ m = 4 ∨ m = 5 ∨ m = 6 ∨ m = 7 ∨ m = 8 ∨ m = 9) with rfl | rfl | rfl | rfl | rfl | rfl | rfl | rfl | rfl <;> decide +kernel
def spE (ce : Ce) (f : EndC → V) (C : Addr) : Sp := fun vs H Q _ => ∃ (v : V) (e : EndC), vs = [v] ∧ IsE ce H v e ∧ C = ce.at e.k ∧ 1 ≤ e.m ∧ e.m ≤ 9 ∧ isName e.n = true ∧ Q (f e) H
theorem disp_ahead (T : TEnds K mg ce) : DispAt P w K mg base CX0 ce.has "ahead" 1 ["self"] (spE ce fun e => .str e.k.ahead) := by
  refine ⟨fun C hC => ?_⟩
  obtain ⟨k, rfl⟩ := hC
  cases k
  · refine methAt_ok (T.cls .coil) T.m_ahead_coil sc_End_ahead (fun vs H Q E h => ?_) (fun f cdv A outer s H vs Q E hr h => ?_)
    · obtain ⟨v, e, rfl, _⟩ := h; rfl
    · obtain ⟨v, e, rfl, p, hk, h1, h2, hn, q⟩ := h
      have q : Q (.str e.k.ahead) H := q
      rw [← T.inj _ _ hk] at q
      refine ⟨_, (pss_one (ps_ret pe_str)), ?_⟩
      walk_at "rd"
      exact q
  · refine methAt_ok (T.cls .latch) T.m_ahead_latch sc_Latch_ahead (fun vs H Q E h => ?_) (fun f cdv A outer s H vs Q E hr h => ?_)
    · obtain ⟨v, e, rfl, _⟩ := h; rfl
    · obtain ⟨v, e, rfl, p, hk, h1, h2, hn, q⟩ := h
      have q : Q (.str e.k.ahead) H := q
      rw [← T.inj _ _ hk] at q
      refine ⟨_, (pss_one (ps_ret pe_str)), ?_⟩
      walk_at "rd"
      exact q
  · refine methAt_ok (T.cls .unlatch) T.m_ahead_unlatch sc_Unlatch_ahead (fun vs H Q E h => ?_) (fun f cdv A outer s H vs Q E hr h => ?_)
    · obtain ⟨v, e, rfl, _⟩ := h; rfl
    · obtain ⟨v, e, rfl, p, hk, h1, h2, hn, q⟩ := h
      have q : Q (.str e.k.ahead) H := q
      rw [← T.inj _ _ hk] at q
      refine ⟨_, (pss_one (ps_ret pe_str)), ?_⟩
      walk_at "rd"
      exact q
  · refine methAt_ok (T.cls .timer) T.m_ahead_timer sc_Timer_ahead (fun vs H Q E h => ?_) (fun f cdv A outer s H vs Q E hr h => ?_)
    · obtain ⟨v, e, rfl, _⟩ := h; rfl
    · obtain ⟨v, e, rfl, p, hk, h1, h2, hn, q⟩ := h
      have q : Q (.str e.k.ahead) H := q
      rw [← T.inj _ _ hk] at q
      refine ⟨_, (pss_one (ps_ret pe_str)), ?_⟩
      walk_at "rd"
      exact q
  · refine methAt_ok (T.cls .counter) T.m_ahead_counter sc_Counter_ahead (fun vs H Q E h => ?_) (fun f cdv A outer s H vs Q E hr h => ?_)
    · obtain ⟨v, e, rfl, _⟩ := h; rfl
    · obtain ⟨v, e, rfl, p, hk, h1, h2, hn, q⟩ := h
      have q : Q (.str e.k.ahead) H := q
      rw [← T.inj _ _ hk] at q
      refine ⟨_, (pss_one (ps_ret pe_str)), ?_⟩
      walk_at "rd"
      exact q
theorem disp_behind (T : TEnds K mg ce) : DispAt P w K mg base CX0 ce.has "behind" 1 ["self"] (spE ce fun e => .str e.behind) := by
  refine ⟨fun C hC => ?_⟩
  obtain ⟨k, rfl⟩ := hC
  cases k
  · refine methAt_ok (T.cls .coil) T.m_behind_coil sc_End_behind (fun vs H Q E h => ?_) (fun f cdv A outer s H vs Q E hr h => ?_)
    · obtain ⟨v, e, rfl, _⟩ := h; rfl
    · obtain ⟨v, e, rfl, p, hk, h1, h2, hn, q⟩ := h
      have q : Q (.str e.behind) H := q
      unfold EndC.behind at q
      rw [← T.inj _ _ hk] at q
      refine ⟨_, (pss_one (ps_ret pe_str)), ?_⟩
      walk_at "rd"
      exact q
  · refine methAt_ok (T.cls .latch) T.m_behind_latch sc_End_behind (fun vs H Q E h => ?_) (fun f cdv A outer s H vs Q E hr h => ?_)
    · obtain ⟨v, e, rfl, _⟩ := h; rfl
    · obtain ⟨v, e, rfl, p, hk, h1, h2, hn, q⟩ := h
      have q : Q (.str e.behind) H := q
      unfold EndC.behind at q
      rw [← T.inj _ _ hk] at q
      refine ⟨_, (pss_one (ps_ret pe_str)), ?_⟩
      walk_at "rd"
      exact q
  · refine methAt_ok (T.cls .unlatch) T.m_behind_unlatch sc_End_behind (fun vs H Q E h => ?_) (fun f cdv A outer s H vs Q E hr h => ?_)
    · obtain ⟨v, e, rfl, _⟩ := h; rfl
    · obtain ⟨v, e, rfl, p, hk, h1, h2, hn, q⟩ := h
      have q : Q (.str e.behind) H := q
      unfold EndC.behind at q
      rw [← T.inj _ _ hk] at q
      refine ⟨_, (pss_one (ps_ret pe_str)), ?_⟩
      walk_at "rd"
      exact q
  · refine methAt_ok (T.cls .timer) T.m_behind_timer sc_Counting_behind (fun vs H Q E h => ?_) (fun f cdv A outer s H vs Q E hr h => ?_)
    · obtain ⟨v, e, rfl, _⟩ := h; rfl
    · obtain ⟨v, e, rfl, p, hk, h1, h2, hn, q⟩ := h
      have ek := T.inj _ _ hk
      have hcn : e.k.counts = true := by rw [← ek]; rfl
      have q : Q (.str e.behind) H := q
      unfold EndC.behind at q
      rw [hcn] at q
      obtain ⟨a, dx, rfl, ha⟩ := p
      refine ⟨_, (pss_one (ps_ret (pe_op op_add_str pe_str (pe_callTy call_str_int (by rfl) T.z_str (by decide +kernel) (pa_cons (pe_fld (pv 0) rfl) pa_nil))))), ?_⟩
      walk_at "rd"
      rw [if_pos rfl] at q
      exact ⟨_, rfl, a, _, dx, _, _, rfl, ha, T.cls _, T.nm _ hcn, E_most hcn, e.m, rfl, most_log h1 h2, line_ge (by rw [most_len h1 h2]; decide +kernel), q⟩
  · refine methAt_ok (T.cls .counter) T.m_behind_counter sc_Counting_behind (fun vs H Q E h => ?_) (fun f cdv A outer s H vs Q E hr h => ?_)
    · obtain ⟨v, e, rfl, _⟩ := h; rfl
    · obtain ⟨v, e, rfl, p, hk, h1, h2, hn, q⟩ := h
      have ek := T.inj _ _ hk
      have hcn : e.k.counts = true := by rw [← ek]; rfl
      have q : Q (.str e.behind) H := q
      unfold EndC.behind at q
      rw [hcn] at q
      obtain ⟨a, dx, rfl, ha⟩ := p
      refine ⟨_, (pss_one (ps_ret (pe_op op_add_str pe_str (pe_callTy call_str_int (by rfl) T.z_str (by decide +kernel) (pa_cons (pe_fld (pv 0) rfl) pa_nil))))), ?_⟩
      walk_at "rd"
      rw [if_pos rfl] at q
      exact ⟨_, rfl, a, _, dx, _, _, rfl, ha, T.cls _, T.nm _ hcn, E_most hcn, e.m, rfl, most_log h1 h2, line_ge (by rw [most_len h1 h2]; decide +kernel), q⟩
theorem disp_text (T : TEnds K mg ce) : DispAt P w K mg base CX0 ce.has "text" 2 ["self"] (spE ce fun e => .str e.text) := by
  have G_ahead : DispAt P w K mg base CX0 ce.has "ahead" 1 ["self"] (spE ce fun e => .str e.k.ahead) := disp_ahead T
  have G_behind : DispAt P w K mg base CX0 ce.has "behind" 1 ["self"] (spE ce fun e => .str e.behind) := disp_behind T
  refine ⟨fun C hC => ?_⟩
  obtain ⟨k, rfl⟩ := hC
  have D : MethAt K (ce.at k) "text" "End.text" s_End_text ["self"] := by
    cases k
    · exact T.m_text_coil
    · exact T.m_text_latch
    · exact T.m_text_unlatch
    · exact T.m_text_timer
    · exact T.m_text_counter
  refine methAt_ok (T.cls k) D sc_End_text (fun vs H Q E h => ?_) (fun f cdv A outer s H vs Q E hr h => ?_)
  · obtain ⟨v, e, rfl, _⟩ := h; rfl
  · obtain ⟨v, e, rfl, p, hk, h1, h2, hn, q⟩ := h
    have hnl := isName_len' hn
    refine ⟨_, (pss_one (ps_ret (pe_op op_add_str (pe_op op_add_str (pe_methD0 G_ahead hr pass0 (pv 0)) (pe_fld (pv 0) rfl)) (pe_methD0 G_behind hr pass0 (pv 0))))), ?_⟩
    walk_at "rd"
    have q : Q (.str e.text) H := q
    obtain ⟨a, dx, rfl, ha⟩ := id p
    have l1 : e.k.ahead.length ≤ 8 := by
      cases e.k <;> decide +kernel
    have l2 : e.behind.length ≤ 2 := by
      unfold EndC.behind
      split
      · rw [len_app, most_len h1 h2]
        decide +kernel
      · decide +kernel
    refine ⟨_, rfl, a, ce.at e.k, dx, e.fs, rfl, ha, ⟨_, rfl⟩, E_no e (by decide +kernel) (by decide +kernel), .ref a, e, rfl, p, rfl, h1, h2, hn, ?_⟩
    refine ⟨_, rfl, a, _, dx, _, _, rfl, ha, T.cls _, T.nn _, E_name e, ?_⟩
    refine ⟨_, rfl, _, rfl, line_ge (by omega), _, rfl, a, ce.at e.k, dx, e.fs, rfl, ha, ⟨_, rfl⟩, E_no e (by decide +kernel) (by decide +kernel), .ref a, e, rfl, p, rfl, h1, h2, hn, ?_⟩
    exact ⟨_, rfl, line_ge (by rw [len_app]; omega), q⟩
def spInitEn (ce : Ce) (xc : Xc) : Sp := fun vs H Q E => ∃ (x dx : Addr) (k : Ek) (n : Str), vs = [.ref x, .str n] ∧ H x = some (.ins (ce.at k) dx []) ∧ n.length ≤ sizeLine ∧
  (isName n = true → ∀ H' : Hp, H' x = some (.ins (ce.at k) dx [("name", .str n)]) → But x H H' → Q .non H') ∧ (isName n = false → E (.ref xc.name) none H)
theorem body_en (T : TEnds K mg ce) (X : TKind2 K mg xc) : ClsFn P w K mg base (L2.CX P w) ce.en "__init__" 3 ["self", "name"] (spInitEn ce xc) := by
  have G_is_name : FnAt P w K mg base CX0 "is_name" 2 _ spIsName := ok_is_name T.names
  have e_NoName := X.e_name
  refine clsFn_okX T.f_init sc_End___init__ (fun vs H Q E h => ?_) (fun f cdv A outer s H vs Q E hr h => ?_)
  · obtain ⟨x, dx, k, n, rfl, _⟩ := h; rfl
  · obtain ⟨x, dx, k, n, rfl, hx, hl, q, qx⟩ := h
    refine ⟨_, (pss_cons (ps_if (pt_not (pt_val (pe_callF G_is_name hr pass0 (pa_cons (pv 1) pa_nil)))) (pss_one (ps_raiseO rfl e_NoName (L2.takes_of rfl rfl rfl rfl))) pss_nil)
        (pss_one (ps_fld (pv 0) (pv 1) rfl))), ?_⟩
    refine ⟨_, rfl, n, rfl, hl, ?_⟩
    cases hn : isName n with
    | false => exact ⟨false, rfl, iteT (qx hn)⟩
    | true =>
      refine ⟨true, rfl, iteF ?_⟩
      refine ⟨_, rfl, _, rfl, x, _, dx, [], rfl, hx, T.cls k, T.nn k, (by show 0 < 1000; decide), ?_⟩
      exact q hn _ upd_same But.upd
theorem init_en (T : TEnds K mg ce) (X : TKind2 K mg xc) {nm : Str} (k0 : Ek) (c : ClsAt K mg nm (ce.at k0)) (D : MethAt K (ce.at k0) "__init__" "End.__init__" s_End___init__ ["self", "name"]) : MakAt P w K mg base (L2.CX P w) nm (ce.at k0) 3 ["self", "name"] (spInitEn ce xc) := by
  have G_is_name : FnAt P w K mg base CX0 "is_name" 2 _ spIsName := ok_is_name T.names
  have e_NoName := X.e_name
  refine makAt_of c (methAt_okX c.cl D sc_End___init__ (fun vs H Q E h => ?_) (fun f cdv A outer s H vs Q E hr h => ?_))
  · obtain ⟨x, dx, k, n, rfl, _⟩ := h; rfl
  · obtain ⟨x, dx, k, n, rfl, hx, hl, q, qx⟩ := h
    refine ⟨_, (pss_cons (ps_if (pt_not (pt_val (pe_callF G_is_name hr pass0 (pa_cons (pv 1) pa_nil)))) (pss_one (ps_raiseO rfl e_NoName (L2.takes_of rfl rfl rfl rfl))) pss_nil)
        (pss_one (ps_fld (pv 0) (pv 1) rfl))), ?_⟩
    refine ⟨_, rfl, n, rfl, hl, ?_⟩
    cases hn : isName n with
    | false => exact ⟨false, rfl, iteT (qx hn)⟩
    | true =>
      refine ⟨true, rfl, iteF ?_⟩
      refine ⟨_, rfl, _, rfl, x, _, dx, [], rfl, hx, T.cls k, T.nn k, (by show 0 < 1000; decide), ?_⟩
      exact q hn _ upd_same But.upd
def spInitCo (ce : Ce) (xc : Xc) : Sp := fun vs H Q E => ∃ (x dx : Addr) (k : Ek) (n : Str) (m : Int), vs = [.ref x, .str n, .int m] ∧ H x = some (.ins (ce.at k) dx []) ∧ k.counts = true ∧ n.length ≤ sizeLine ∧
  (isName n = true → 1 ≤ m → m ≤ 9 → ∀ H' : Hp, H' x = some (.ins (ce.at k) dx [("name", .str n), ("most", .int m)]) → But x H H' → Q .non H') ∧ (isName n = false → E (.ref xc.name) none H) ∧ (isName n = true → ¬ (1 ≤ m ∧ m ≤ 9) → ∀ H', But x H H' → E (.ref xc.end_) none H')
theorem init_co (T : TEnds K mg ce) (X : TKind2 K mg xc) {nm : Str} (k0 : Ek) (c : ClsAt K mg nm (ce.at k0)) (D : MethAt K (ce.at k0) "__init__" "Counting.__init__" s_Counting___init__ ["self", "name", "most"]) : MakAt P w K mg base (L2.CX P w) nm (ce.at k0) 4 ["self", "name", "most"] (spInitCo ce xc) := by
  have CX_End__init__ : ClsFn P w K mg base (L2.CX P w) ce.en "__init__" 3 ["self", "name"] (spInitEn ce xc) := body_en T X
  have e_NoEnd := X.e_end
  refine makAt_of c (methAt_okX c.cl D sc_Counting___init__ (fun vs H Q E h => ?_) (fun f cdv A outer s H vs Q E hr h => ?_))
  · obtain ⟨x, dx, k, n, m, rfl, _⟩ := h; rfl
  · obtain ⟨x, dx, k, n, m, rfl, hx, hk, hl, q, qn, qe⟩ := h
    refine ⟨_, (pss_cons (ps_expr (pe_clsF CX_End__init__ hr (passX (L2.takes_of rfl rfl rfl rfl)) (pe_cls T.c_End) (pa_cons (pv 0) (pa_cons (pv 1) pa_nil))))
        (pss_cons (ps_if (PW.pt (pw_or (pt_not (pt_val (pe_callB call_isInt (by rfl) T.z_isinstance (by decide +kernel) (pa_cons (pv 2) (pa_cons (pe_bltn (v := .ty "int") (by rfl) T.z_int (by decide +kernel) rfl) pa_nil))))) (pw_or (pt_val (pe_callB call_isBool (by rfl) T.z_isinstance (by decide +kernel) (pa_cons (pv 2) (pa_cons (pe_bltn (v := .ty "bool") (by rfl) T.z_bool (by decide +kernel) rfl) pa_nil)))) (pw_or1 (pt_not (pt_chain op_le op_le pe_int (pv 2) (pe_gc T.g_MOST_COUNT))))))) (pss_one (ps_raiseO rfl e_NoEnd (L2.takes_of rfl rfl rfl rfl))) pss_nil)
        (pss_one (ps_fld (pv 0) (pv 2) rfl)))), ?_⟩
    walk_at "rd"
    refine ⟨x, dx, k, n, rfl, hx, hl, fun hn H1 h1 b1 => ?_, fun hn => qn hn⟩
    unfold tChain
    walk_at "rd"
    by_cases m1 : 1 ≤ m
    · rw [decide_eq_true m1]
      by_cases m9 : m ≤ 9
      · rw [decide_eq_true m9]
        refine iteT (iteF ⟨_, rfl, _, rfl, x, _, dx, _, rfl, h1, T.cls k, T.nm k hk, (by show 1 < 1000; decide), ?_⟩)
        exact q hn m1 m9 _ upd_same (b1.trans But.upd)
      · rw [decide_eq_false m9]
        exact iteT (iteT (qe hn (fun z => m9 z.2) _ b1))
    · rw [decide_eq_false m1]
      exact iteF (qe hn (fun z => m1 z.1) _ b1)
/-! ### what making asks -/
theorem same_mkE {H : Hp} {x dx C : Addr} {fs : List (Str × V)} (nx : H x = none) (nd : H dx = none) : Same H (upd (upd H dx (.own x)) x (.ins C dx fs)) := fun b o e => by
  rw [upd_ne (ne_of_none e nx), upd_ne (ne_of_none e nd)]
  exact e
theorem mk_en {H : Hp} {k : Ek} {n : Str} {m : Int} {Q : VK} {E : XK} (hk : k.counts = false) (hl : n.length ≤ sizeLine) (q : isName n = true → ∀ (H' : Hp) (x : Addr), Same H H' → H x = none → IsE ce H' (.ref x) ⟨k, n, m⟩ → Q (.ref x) H') (qn : isName n = false → ∀ H', Same H H' → E (.ref xc.name) none H') :
    ∀ x dx, H x = none → H dx = none → dx ≠ x → spInitEn ce xc (.ref x :: ([.str n] ++ [])) (upd (upd H dx (.own x)) x (.ins (ce.at k) dx [])) (fun v H' => v = .non ∧ Q (.ref x) H') E :=
  fun x dx nx nd _ => ⟨x, dx, k, n, rfl, upd_same, hl, fun hn H' h1 h2 => ⟨rfl, q hn H' x (fun c o e => h2 c o (same_mkE nx nd c o e) (ne_of_none e nx)) nx ⟨x, dx, rfl, by unfold EndC.fs; rw [hk]; exact h1⟩⟩, fun hn => qn hn _ (same_mkE nx nd)⟩
theorem mk_co {H : Hp} {k : Ek} {n : Str} {m : Int} {Q : VK} {E : XK} (hk : k.counts = true) (hl : n.length ≤ sizeLine) (q : isName n = true → 1 ≤ m → m ≤ 9 → ∀ (H' : Hp) (x : Addr), Same H H' → H x = none → IsE ce H' (.ref x) ⟨k, n, m⟩ → Q (.ref x) H') (qn : isName n = false → ∀ H', Same H H' → E (.ref xc.name) none H')
    (qe : isName n = true → ¬ (1 ≤ m ∧ m ≤ 9) → ∀ H', Same H H' → E (.ref xc.end_) none H') :
    ∀ x dx, H x = none → H dx = none → dx ≠ x → spInitCo ce xc (.ref x :: ([.str n, .int m] ++ [])) (upd (upd H dx (.own x)) x (.ins (ce.at k) dx [])) (fun v H' => v = .non ∧ Q (.ref x) H') E :=
  fun x dx nx nd _ => ⟨x, dx, k, n, m, rfl, upd_same, hk, hl, fun hn m1 m9 H' h1 h2 => ⟨rfl, q hn m1 m9 H' x (fun c o e => h2 c o (same_mkE nx nd c o e) (ne_of_none e nx)) nx ⟨x, dx, rfl, by unfold EndC.fs; rw [hk]; exact h1⟩⟩, fun hn => qn hn _ (same_mkE nx nd), fun hn hm H' h2 => qe hn hm H' fun c o e => h2 c o (same_mkE nx nd c o e) (ne_of_none e nx)⟩
end

/-! ## isinstance of ends -/
structure TEnK (K : PySem.W.Frag) (mg : Str → Option Value) (ce : Ce) : Prop where
  ends : TEnds K mg ce
  o_coil_coil : PySem.W.kitOne K (.ref ce.coil) (.ref ce.coil) = some true
  o_coil_latch : PySem.W.kitOne K (.ref ce.coil) (.ref ce.latch) = some false
  o_coil_unlatch : PySem.W.kitOne K (.ref ce.coil) (.ref ce.unlatch) = some false
  o_coil_timer : PySem.W.kitOne K (.ref ce.coil) (.ref ce.timer) = some false
  o_coil_counter : PySem.W.kitOne K (.ref ce.coil) (.ref ce.counter) = some false
  o_latch_coil : PySem.W.kitOne K (.ref ce.latch) (.ref ce.coil) = some false
  o_latch_latch : PySem.W.kitOne K (.ref ce.latch) (.ref ce.latch) = some true
  o_latch_unlatch : PySem.W.kitOne K (.ref ce.latch) (.ref ce.unlatch) = some false
  o_latch_timer : PySem.W.kitOne K (.ref ce.latch) (.ref ce.timer) = some false
  o_latch_counter : PySem.W.kitOne K (.ref ce.latch) (.ref ce.counter) = some false
  o_unlatch_coil : PySem.W.kitOne K (.ref ce.unlatch) (.ref ce.coil) = some false
  o_unlatch_latch : PySem.W.kitOne K (.ref ce.unlatch) (.ref ce.latch) = some false
  o_unlatch_unlatch : PySem.W.kitOne K (.ref ce.unlatch) (.ref ce.unlatch) = some true
  o_unlatch_timer : PySem.W.kitOne K (.ref ce.unlatch) (.ref ce.timer) = some false
  o_unlatch_counter : PySem.W.kitOne K (.ref ce.unlatch) (.ref ce.counter) = some false
  o_timer_coil : PySem.W.kitOne K (.ref ce.timer) (.ref ce.coil) = some false
  o_timer_latch : PySem.W.kitOne K (.ref ce.timer) (.ref ce.latch) = some false
  o_timer_unlatch : PySem.W.kitOne K (.ref ce.timer) (.ref ce.unlatch) = some false
  o_timer_timer : PySem.W.kitOne K (.ref ce.timer) (.ref ce.timer) = some true
  o_timer_counter : PySem.W.kitOne K (.ref ce.timer) (.ref ce.counter) = some false
  o_counter_coil : PySem.W.kitOne K (.ref ce.counter) (.ref ce.coil) = some false
  o_counter_latch : PySem.W.kitOne K (.ref ce.counter) (.ref ce.latch) = some false
  o_counter_unlatch : PySem.W.kitOne K (.ref ce.counter) (.ref ce.unlatch) = some false
  o_counter_timer : PySem.W.kitOne K (.ref ce.counter) (.ref ce.timer) = some false
  o_counter_counter : PySem.W.kitOne K (.ref ce.counter) (.ref ce.counter) = some true
  o_coil_en : PySem.W.kitOne K (.ref ce.coil) (.ref ce.en) = some true
  o_latch_en : PySem.W.kitOne K (.ref ce.latch) (.ref ce.en) = some true
  o_unlatch_en : PySem.W.kitOne K (.ref ce.unlatch) (.ref ce.en) = some true
  o_timer_en : PySem.W.kitOne K (.ref ce.timer) (.ref ce.en) = some true
  o_counter_en : PySem.W.kitOne K (.ref ce.counter) (.ref ce.en) = some true
section
variable {K : PySem.W.Frag} {mg : Str → Option Value} {ce : Ce}
theorem TEnK.is_Coil (T : TEnK K mg ce) : IsT K ce.coil (fun C b => ∃ k : Ek, C = ce.at k ∧ b = decide (k = .coil)) := by
  rintro C b ⟨k, rfl, rfl⟩
  cases k
  · exact ⟨⟨_, _, T.ends.c_Coil⟩, T.o_coil_coil⟩
  · exact ⟨⟨_, _, T.ends.c_Latch⟩, T.o_latch_coil⟩
  · exact ⟨⟨_, _, T.ends.c_Unlatch⟩, T.o_unlatch_coil⟩
  · exact ⟨⟨_, _, T.ends.c_Timer⟩, T.o_timer_coil⟩
  · exact ⟨⟨_, _, T.ends.c_Counter⟩, T.o_counter_coil⟩
theorem TEnK.is_Latch (T : TEnK K mg ce) : IsT K ce.latch (fun C b => ∃ k : Ek, C = ce.at k ∧ b = decide (k = .latch)) := by
  rintro C b ⟨k, rfl, rfl⟩
  cases k
  · exact ⟨⟨_, _, T.ends.c_Coil⟩, T.o_coil_latch⟩
  · exact ⟨⟨_, _, T.ends.c_Latch⟩, T.o_latch_latch⟩
  · exact ⟨⟨_, _, T.ends.c_Unlatch⟩, T.o_unlatch_latch⟩
  · exact ⟨⟨_, _, T.ends.c_Timer⟩, T.o_timer_latch⟩
  · exact ⟨⟨_, _, T.ends.c_Counter⟩, T.o_counter_latch⟩
theorem TEnK.is_Unlatch (T : TEnK K mg ce) : IsT K ce.unlatch (fun C b => ∃ k : Ek, C = ce.at k ∧ b = decide (k = .unlatch)) := by
  rintro C b ⟨k, rfl, rfl⟩
  cases k
  · exact ⟨⟨_, _, T.ends.c_Coil⟩, T.o_coil_unlatch⟩
  · exact ⟨⟨_, _, T.ends.c_Latch⟩, T.o_latch_unlatch⟩
  · exact ⟨⟨_, _, T.ends.c_Unlatch⟩, T.o_unlatch_unlatch⟩
  · exact ⟨⟨_, _, T.ends.c_Timer⟩, T.o_timer_unlatch⟩
  · exact ⟨⟨_, _, T.ends.c_Counter⟩, T.o_counter_unlatch⟩
theorem TEnK.is_Timer (T : TEnK K mg ce) : IsT K ce.timer (fun C b => ∃ k : Ek, C = ce.at k ∧ b = decide (k = .timer)) := by
  rintro C b ⟨k, rfl, rfl⟩
  cases k
  · exact ⟨⟨_, _, T.ends.c_Coil⟩, T.o_coil_timer⟩
  · exact ⟨⟨_, _, T.ends.c_Latch⟩, T.o_latch_timer⟩
  · exact ⟨⟨_, _, T.ends.c_Unlatch⟩, T.o_unlatch_timer⟩
  · exact ⟨⟨_, _, T.ends.c_Timer⟩, T.o_timer_timer⟩
  · exact ⟨⟨_, _, T.ends.c_Counter⟩, T.o_counter_timer⟩
theorem TEnK.is_Counter (T : TEnK K mg ce) : IsT K ce.counter (fun C b => ∃ k : Ek, C = ce.at k ∧ b = decide (k = .counter)) := by
  rintro C b ⟨k, rfl, rfl⟩
  cases k
  · exact ⟨⟨_, _, T.ends.c_Coil⟩, T.o_coil_counter⟩
  · exact ⟨⟨_, _, T.ends.c_Latch⟩, T.o_latch_counter⟩
  · exact ⟨⟨_, _, T.ends.c_Unlatch⟩, T.o_unlatch_counter⟩
  · exact ⟨⟨_, _, T.ends.c_Timer⟩, T.o_timer_counter⟩
  · exact ⟨⟨_, _, T.ends.c_Counter⟩, T.o_counter_counter⟩
theorem TEnK.is_End (T : TEnK K mg ce) : IsT K ce.en (fun C b => (∃ k : Ek, C = ce.at k) ∧ b = true) := by
  rintro C b ⟨⟨k, rfl⟩, rfl⟩
  cases k
  · exact ⟨⟨_, _, T.ends.c_Coil⟩, T.o_coil_en⟩
  · exact ⟨⟨_, _, T.ends.c_Latch⟩, T.o_latch_en⟩
  · exact ⟨⟨_, _, T.ends.c_Unlatch⟩, T.o_unlatch_en⟩
  · exact ⟨⟨_, _, T.ends.c_Timer⟩, T.o_timer_en⟩
  · exact ⟨⟨_, _, T.ends.c_Counter⟩, T.o_counter_en⟩
theorem TEnK.c_Coil (T : TEnK K mg ce) : ClsAt K mg "Coil" ce.coil := T.ends.c_Coil
theorem TEnK.c_Latch (T : TEnK K mg ce) : ClsAt K mg "Latch" ce.latch := T.ends.c_Latch
theorem TEnK.c_Unlatch (T : TEnK K mg ce) : ClsAt K mg "Unlatch" ce.unlatch := T.ends.c_Unlatch
theorem TEnK.c_Timer (T : TEnK K mg ce) : ClsAt K mg "Timer" ce.timer := T.ends.c_Timer
theorem TEnK.c_Counter (T : TEnK K mg ce) : ClsAt K mg "Counter" ce.counter := T.ends.c_Counter
theorem TEnK.c_End (T : TEnK K mg ce) : ClsAt K mg "End" ce.en := T.ends.c_End
theorem TEnK.z_isinstance (T : TEnK K mg ce) : mg "isinstance" = none := T.ends.z_isinstance
end
def Ek.ix : Ek → Int
  | .coil => 0
  | .latch => 1
  | .unlatch => 2
  | .timer => 3
  | .counter => 4
theorem Ek.of_ix {i : Int} (h0 : 0 ≤ i) (h1 : i < 5) : ∃ k : Ek, k.ix = i := by
  rcases (by omega : i = 0 ∨ i = 1 ∨ i = 2 ∨ i = 3 ∨ i = 4) with rfl | rfl | rfl | rfl | rfl
  · exact ⟨.coil, rfl⟩
  · exact ⟨.latch, rfl⟩
  · exact ⟨.unlatch, rfl⟩
  · exact ⟨.timer, rfl⟩
  · exact ⟨.counter, rfl⟩
theorem app_assoc (a b c : Str) : a ++ b ++ c = a ++ (b ++ c) := by
  show Str.append (Str.append a b) c = Str.append a (Str.append b c)
  simp [Str.append, Array.append_assoc]
theorem app_empty (a : Str) : a ++ ("" : Str) = a := by
  have e : ("" : Str) = ⟨#[]⟩ := by decide +kernel
  rw [e]
  show Str.append a ⟨#[]⟩ = a
  simp [Str.append]

/-! ## the law's own -/
abbrev s__law_far_at : Stmt := top 29
theorem sc__law_far_at : FnScope ["_law_script", "_law_k"] ["_law_script", "_law_k"] (defScope s__law_far_at) := ⟨rfl, rfl, rfl, by decide +kernel, rfl, by decide +kernel, by decide +kernel⟩
abbrev s__law_made : Stmt := top 33
theorem sc__law_made : FnScope ["_law_which", "_law_name", "_law_most"] ["_law_which", "_law_name", "_law_most"] (defScope s__law_made) := ⟨rfl, rfl, rfl, by decide +kernel, rfl, by decide +kernel, by decide +kernel⟩
abbrev s__law_refused : Stmt := top 34
theorem sc__law_refused : FnScope ["_law_which", "_law_name", "_law_most", "_law_e"] ["_law_which", "_law_name", "_law_most"] (defScope s__law_refused) := ⟨rfl, rfl, rfl, by decide +kernel, rfl, by decide +kernel, by decide +kernel⟩
abbrev s__law_class : Stmt := top 35
theorem sc__law_class : FnScope ["_law_end", "_law_marks"] ["_law_end"] (defScope s__law_class) := ⟨rfl, rfl, rfl, by decide +kernel, rfl, by decide +kernel, by decide +kernel⟩
abbrev s__law_right : Stmt := top 36
theorem sc__law_right : FnScope ["_law_end", "_law_which", "_law_name", "_law_most", "_law_turn", "_law_due", "_law_look"] ["_law_end", "_law_which", "_law_name", "_law_most", "_law_turn"] (defScope s__law_right) := ⟨rfl, rfl, rfl, by decide +kernel, rfl, by decide +kernel, by decide +kernel⟩
structure TOwn (K : PySem.W.Frag) (mg : Str → Option Value) (ce : Ce) (xc : Xc) : Prop where
  kind : TKind2 K mg xc
  enk : TEnK K mg ce
  d_far : DefAt K mg "_law_far_at" s__law_far_at ["_law_script", "_law_k"]
  d_made : DefAt K mg "_law_made" s__law_made ["_law_which", "_law_name", "_law_most"]
  d_refused : DefAt K mg "_law_refused" s__law_refused ["_law_which", "_law_name", "_law_most"]
  d_class : DefAt K mg "_law_class" s__law_class ["_law_end"]
  d_right : DefAt K mg "_law_right" s__law_right ["_law_end", "_law_which", "_law_name", "_law_most", "_law_turn"]
  z_len : mg "len" = none
section
variable {P : Program} {w : World} {K : PySem.W.Frag} {mg : Str → Option Value} {base : Heap} {ce : Ce} {xc : Xc}
def spFarAt (K : PySem.W.Frag) : Sp := fun vs H Q _ => ∃ (a : Addr) (ns : List Int) (k : Int), vs = [.ref a, .int k] ∧ SqL K H a (ns.map V.int) ∧ 0 ≤ k ∧ ∀ c : Int, Q (.int c) H
theorem ok_far_at (T : TOwn K mg ce xc) : FnAt P w K mg base CX0 "_law_far_at" 1 ["_law_script", "_law_k"] (spFarAt K) := by
  refine fnAt_ok T.d_far sc__law_far_at (fun vs H Q E h => ?_) (fun f cdv A outer s H vs Q E hr h => ?_)
  · obtain ⟨a, ns, k, rfl, _⟩ := h; rfl
  · obtain ⟨a, ns, n, rfl, hs, h0, k⟩ := h
    refine ⟨_, (pss_cons (ps_if (pt_cmpR op_lt (pv 1) (pe_callB call_len_seq (by rfl) T.z_len PySem.boot_len (pa_cons (pv 0) pa_nil)) (nomark _)) (pss_one (ps_ret (pe_ix ix_list (pv 0) (pv 1) (fun _ _ => rfl)))) pss_nil)
        (pss_one (ps_ret pe_int))), ?_⟩
    walk_at "rd"
    refine ⟨_, .inl hs, ?_⟩
    rw [List.length_map]
    by_cases hl : n < (ns.length : Int)
    · rw [decide_eq_true hl]
      have hn : n.toNat < ns.length := by omega
      refine iteT ⟨a, _, _, .int ns[n.toNat], rfl, rfl, hs, ?_, k _⟩
      exact atI_int h0 (by rw [List.getElem?_map, List.getElem?_eq_getElem hn]; rfl)
    · rw [decide_eq_false hl]
      exact iteF (k _)
def spMadeE (ce : Ce) (xc : Xc) : Sp := fun vs H Q E => ∃ (k : Ek) (n : Str) (m : Int), vs = [.int k.ix, .str n, .int m] ∧ n.length ≤ 1000000 ∧
  (isName n = true → 1 ≤ m → m ≤ 9 → ∀ (H' : Hp) (x : Addr), Same H H' → IsE ce H' (.ref x) ⟨k, n, m⟩ → Q (.ref x) H') ∧ (isName n = false → ∀ H', Same H H' → E (.ref xc.name) none H') ∧ (isName n = true → k.counts = true → ¬ (1 ≤ m ∧ m ≤ 9) → ∀ H', Same H H' → E (.ref xc.end_) none H') ∧ (isName n = true → k.counts = false → 1 ≤ m ∧ m ≤ 9)
theorem ok_madeE (T : TOwn K mg ce xc) : FnAt P w K mg base (L2.CX P w) "_law_made" 6 ["_law_which", "_law_name", "_law_most"] (spMadeE ce xc) := by
  have TE := T.enk.ends
  have X := T.kind
  have MX_Coil : MakAt P w K mg base (L2.CX P w) "Coil" ce.coil 3 ["self", "name"] (spInitEn ce xc) := init_en TE X .coil TE.c_Coil TE.m_init_coil
  have MX_Latch : MakAt P w K mg base (L2.CX P w) "Latch" ce.latch 3 ["self", "name"] (spInitEn ce xc) := init_en TE X .latch TE.c_Latch TE.m_init_latch
  have MX_Unlatch : MakAt P w K mg base (L2.CX P w) "Unlatch" ce.unlatch 3 ["self", "name"] (spInitEn ce xc) := init_en TE X .unlatch TE.c_Unlatch TE.m_init_unlatch
  have MX_Timer : MakAt P w K mg base (L2.CX P w) "Timer" ce.timer 4 ["self", "name", "most"] (spInitCo ce xc) := init_co TE X .timer TE.c_Timer TE.m_init_timer
  have MX_Counter : MakAt P w K mg base (L2.CX P w) "Counter" ce.counter 4 ["self", "name", "most"] (spInitCo ce xc) := init_co TE X .counter TE.c_Counter TE.m_init_counter
  refine fnAt_okX T.d_made sc__law_made (fun vs H Q E h => ?_) (fun f cdv A outer s H vs Q E hr h => ?_)
  · obtain ⟨k, n, m, rfl, _⟩ := h; rfl
  · obtain ⟨k, n, m, rfl, hl, q, qn, qe, qm⟩ := h
    refine ⟨_, (pss_cons (ps_if (pt_cmpR op_eq (pv 0) pe_int (nomark _)) (pss_one (ps_ret (pe_makeF MX_Coil hr (passX (L2.takes_of rfl rfl rfl rfl)) (pa_cons (pv 1) pa_nil)))) pss_nil)
        (pss_cons (ps_if (pt_cmpR op_eq (pv 0) pe_int (nomark _)) (pss_one (ps_ret (pe_makeF MX_Latch hr (passX (L2.takes_of rfl rfl rfl rfl)) (pa_cons (pv 1) pa_nil)))) pss_nil)
        (pss_cons (ps_if (pt_cmpR op_eq (pv 0) pe_int (nomark _)) (pss_one (ps_ret (pe_makeF MX_Unlatch hr (passX (L2.takes_of rfl rfl rfl rfl)) (pa_cons (pv 1) pa_nil)))) pss_nil)
        (pss_cons (ps_if (pt_cmpR op_eq (pv 0) pe_int (nomark _)) (pss_one (ps_ret (pe_makeF MX_Timer hr (passX (L2.takes_of rfl rfl rfl rfl)) (pa_cons (pv 1) (pa_cons (pv 2) pa_nil))))) pss_nil)
        (pss_one (ps_ret (pe_makeF MX_Counter hr (passX (L2.takes_of rfl rfl rfl rfl)) (pa_cons (pv 1) (pa_cons (pv 2) pa_nil))))))))), ?_⟩
    have hl' := line_ge hl
    cases k
    · walk_at "rd"
      rw [if_pos (by decide)]
      exact ⟨_, rfl, mk_en (k := .coil) (m := m) rfl hl' (fun hn H' x s1 _ p => q hn (qm hn rfl).1 (qm hn rfl).2 H' x s1 p) qn⟩
    · walk_at "rd"
      rw [if_neg (by decide), if_pos (by decide)]
      exact ⟨_, rfl, mk_en (k := .latch) (m := m) rfl hl' (fun hn H' x s1 _ p => q hn (qm hn rfl).1 (qm hn rfl).2 H' x s1 p) qn⟩
    · walk_at "rd"
      rw [if_neg (by decide), if_neg (by decide), if_pos (by decide)]
      exact ⟨_, rfl, mk_en (k := .unlatch) (m := m) rfl hl' (fun hn H' x s1 _ p => q hn (qm hn rfl).1 (qm hn rfl).2 H' x s1 p) qn⟩
    · walk_at "rd"
      rw [if_neg (by decide), if_neg (by decide), if_neg (by decide), if_pos (by decide)]
      exact ⟨_, rfl, _, rfl, mk_co (k := .timer) rfl hl' (fun hn m1 m9 H' x s1 _ p => q hn m1 m9 H' x s1 p) qn fun hn hm => qe hn rfl hm⟩
    · walk_at "rd"
      rw [if_neg (by decide), if_neg (by decide), if_neg (by decide), if_neg (by decide)]
      exact ⟨_, rfl, _, rfl, mk_co (k := .counter) rfl hl' (fun hn m1 m9 H' x s1 _ p => q hn m1 m9 H' x s1 p) qn fun hn hm => qe hn rfl hm⟩
def spRefusedE : Sp := fun vs H Q _ => ∃ (k : Ek) (n : Str) (m : Int), vs = [.int k.ix, .str n, .int m] ∧ n.length ≤ 1000000 ∧ ((isName n = false ∧ ∀ H', Same H H' → Q (.str "name") H') ∨ (isName n = true ∧ k.counts = true ∧ ¬ (1 ≤ m ∧ m ≤ 9) ∧ ∀ H', Same H H' → Q (.str "end") H'))
theorem ok_refusedE (T : TOwn K mg ce xc) : FnAt P w K mg base CX0 "_law_refused" 7 ["_law_which", "_law_name", "_law_most"] spRefusedE := by
  have GX__law_made : FnAt P w K mg base (L2.CX P w) "_law_made" 6 _ (spMadeE ce xc) := ok_madeE T
  have G__law_kind : FnPAt P w K mg base CX0 "_law_kind" 1 _ (spKind2 xc) := ok_kind2 T.kind
  have e_LadderError := T.kind.e_err
  refine fnAt_ok T.d_refused sc__law_refused (fun vs H Q E h => ?_) (fun f cdv A outer s H vs Q E hr h => ?_)
  · obtain ⟨k, n, m, rfl, _⟩ := h; rfl
  · obtain ⟨k, n, m, rfl, hl, h⟩ := h
    refine ⟨_, (pss_cons (ps_try_as (i := 3) rfl rfl sc__law_refused.nd rfl rfl ⟨rfl, by decide, .inl e_LadderError.gP⟩ takesN (fun W pn xe tk _ => (pss_one (ps_expr (pe_callT GX__law_made hr tk (pa_cons (pv 0) (pa_cons (pv 1) (pa_cons (pv 2) pa_nil))))))) (fun a oe cls d pn hz hf => (pss_one (ps_ret (pe_callP G__law_kind hz hf hr (pa_cons (pv 3) pa_nil))))))
        (pss_one (ps_ret pe_str))), ?_⟩
    walk_at "rd"
    rcases h with ⟨hb, q⟩ | ⟨hb, hk, hm, q⟩
    · refine ⟨_, rfl, _, rfl, _, rfl, k, n, m, rfl, hl, fun hn => ?_, fun _ H1 s1 => ?_, fun hn => ?_, fun hn => ?_⟩
      · rw [hb] at hn; cases hn
      · exact ⟨true, T.kind.e_name.caught e_LadderError, fun _ a ha => ⟨_, rfl, .name, rfl, rfl, rfl, fun H2 s2 => q _ (s1.trans s2)⟩, fun z => nomatch z⟩
      · rw [hb] at hn; cases hn
      · rw [hb] at hn; cases hn
    · refine ⟨_, rfl, _, rfl, _, rfl, k, n, m, rfl, hl, fun hn m1 m9 => ?_, fun hn => ?_, fun _ _ _ H1 s1 => ?_, fun hn hz => ?_⟩
      · exact absurd ⟨m1, m9⟩ hm
      · rw [hb] at hn; cases hn
      · exact ⟨true, T.kind.e_end.caught e_LadderError, fun _ a ha => ⟨_, rfl, .end_, rfl, rfl, rfl, fun H2 s2 => q _ (s1.trans s2)⟩, fun z => nomatch z⟩
      · rw [hk] at hz; cases hz
def classL (k : Ek) : List V := [.bl (decide (k = .coil)), .bl (decide (k = .latch)), .bl (decide (k = .unlatch)), .bl (decide (k = .timer))] ++ [.bl (decide (k = .counter))]
theorem class_cnt (b : Ek) : (classL b).countP (fun z => eqV z (.bl true)) = 1 := by cases b <;> rfl
theorem class_flat (b : Ek) : (classL b).all flatV = true := by cases b <;> rfl
theorem class_at (b : Ek) : (classL b)[b.ix.toNat]? = some (.bl true) := by cases b <;> rfl
theorem class_ix (b : Ek) : ((b.ix.toNat : Nat) : Int) = b.ix := by cases b <;> rfl
theorem class_no (b : Ek) : ∀ (m : Nat) (z : V), m < b.ix.toNat → (classL b)[m]? = some z → eqV z (.bl true) = false := by
  have h : ∀ b : Ek, ∀ m < b.ix.toNat, (classL b)[m]? = some (.bl false) := by
    intro b
    cases b <;> decide +kernel
  intro m z hm hz
  rw [h b m hm] at hz
  cases hz
  rfl
def spClassE (ce : Ce) : Sp := fun vs H Q _ => ∃ (v : V) (e : EndC), vs = [v] ∧ IsE ce H v e ∧ ∀ H', Same H H' → Q (.int e.k.ix) H'
theorem ok_classE (T0 : TOwn K mg ce xc) : FnAt P w K mg base CX0 "_law_class" 1 ["_law_end"] (spClassE ce) := by
  have T := T0.enk
  refine fnAt_ok T0.d_class sc__law_class (fun vs H Q E h => ?_) (fun f cdv A outer s H vs Q E hr h => ?_)
  · obtain ⟨v, e, rfl, _⟩ := h; rfl
  · obtain ⟨v, e, rfl, p, k⟩ := h
    obtain ⟨a, dx, rfl, ha⟩ := p
    refine ⟨_, (pss_cons (ps_set (i := 1) sc__law_class.nd rfl (by first | exact Or.inl rfl | exact Or.inr rfl) (pe_lst (pa_cons (pe_callB (call_isO T.is_Coil) (by rfl) T.z_isinstance (by decide +kernel) (pa_cons (pv 0) (pa_cons (pe_cls T.c_Coil) pa_nil))) (pa_cons (pe_callB (call_isO T.is_Latch) (by rfl) T.z_isinstance (by decide +kernel) (pa_cons (pv 0) (pa_cons (pe_cls T.c_Latch) pa_nil))) (pa_cons (pe_callB (call_isO T.is_Unlatch) (by rfl) T.z_isinstance (by decide +kernel) (pa_cons (pv 0) (pa_cons (pe_cls T.c_Unlatch) pa_nil))) (pa_cons (pe_callB (call_isO T.is_Timer) (by rfl) T.z_isinstance (by decide +kernel) (pa_cons (pv 0) (pa_cons (pe_cls T.c_Timer) pa_nil))) pa_nil))))))
        (pss_cons (ps_expr (pe_bm PySem.F.plainAttrs_list PySem.F.slot_list_append PySem.F.type_list_append mt_append (pv 1) (pa_cons (pe_callB (call_isO T.is_Counter) (by rfl) T.z_isinstance (by decide +kernel) (pa_cons (pv 0) (pa_cons (pe_cls T.c_Counter) pa_nil))) pa_nil)))
        (pss_cons (ps_if (PW.pt (pw_or (pt_not (pt_val (pe_callB (call_isO T.is_End) (by rfl) T.z_isinstance (by decide +kernel) (pa_cons (pv 0) (pa_cons (pe_cls T.c_End) pa_nil))))) (pw_or1 (pt_cmpR op_ne (pe_bm PySem.F.plainAttrs_list PySem.F.slot_list_count PySem.F.type_list_count mt_countF (pv 1) (pa_cons pe_bl pa_nil)) pe_int (nomark _))))) (pss_one (ps_ret (pe_un un_neg pe_int))) pss_nil)
        (pss_one (ps_ret (pe_bm PySem.F.plainAttrs_list PySem.F.slot_list_index PySem.F.type_list_index mt_index (pv 1) (pa_cons pe_bl pa_nil))))))), ?_⟩
    walk_at "rd"
    refine ⟨a, _, dx, _, _, rfl, ha, ⟨e.k, rfl, rfl⟩, a, _, dx, _, _, rfl, ha, ⟨e.k, rfl, rfl⟩, a, _, dx, _, _, rfl, ha, ⟨e.k, rfl, rfl⟩, a, _, dx, _, _, rfl, ha, ⟨e.k, rfl, rfl⟩, line_ge (by simp), fun l nl => ?_⟩
    have s1 : Same H (upd H l (.lst [.bl (decide (e.k = .coil)), .bl (decide (e.k = .latch)), .bl (decide (e.k = .unlatch)), .bl (decide (e.k = .timer))])) := Same.new nl
    unfold tBM
    walk_at "rd"
    refine ⟨.inl ⟨rfl, _, SqL.of upd_same⟩, a, _, dx, _, _, rfl, s1 _ _ ha, ⟨e.k, rfl, rfl⟩, l, _, _, rfl, rfl, upd_same, line_ge (by simp), ?_⟩
    have s2 : Same H (upd (upd H l (.lst [.bl (decide (e.k = .coil)), .bl (decide (e.k = .latch)), .bl (decide (e.k = .unlatch)), .bl (decide (e.k = .timer))])) l (.lst (classL e.k))) := Same.mut s1 nl
    have hl : upd (upd H l (.lst [.bl (decide (e.k = .coil)), .bl (decide (e.k = .latch)), .bl (decide (e.k = .unlatch)), .bl (decide (e.k = .timer))])) l (.lst (classL e.k)) l = some (.lst (classL e.k)) := upd_same
    refine ⟨a, _, dx, _, _, rfl, s2 _ _ ha, ⟨⟨e.k, rfl⟩, rfl⟩, true, rfl, iteF ⟨.inl ⟨rfl, _, SqL.of hl⟩, l, classL e.k, _, rfl, rfl, SqL.of hl, rfl, class_flat _, ?_⟩⟩
    rw [class_cnt]
    refine ⟨scal_ii, ?_⟩
    rw [decide_eq_true (show V.int ((1 : Nat) : Int) = V.int 1 from rfl)]
    refine iteF ⟨.inl ⟨rfl, _, SqL.of hl⟩, l, classL e.k, .bl true, e.k.ix.toNat, .bl true, rfl, rfl, SqL.of hl, rfl, class_flat _, class_at _, rfl, class_no _, ?_⟩
    rw [class_ix]
    exact k _ s2
theorem ahead_at (k : Ek) : atI [V.str "", .str "set ", .str "reset ", .str "timer ", .str "counter "] k.ix = some (.str k.ahead) := by cases k <;> rfl
theorem counts_ix (k : Ek) : decide (2 < k.ix) = k.counts := by cases k <;> rfl
theorem ahead_len (k : Ek) : k.ahead.length ≤ 8 := by cases k <;> decide +kernel
def spRightE (ce : Ce) : Sp := fun vs H Q _ => ∃ (v : V) (e : EndC) (t : Int), vs = [v, .int e.k.ix, .str e.n, .int e.m, .int t] ∧ IsE ce H v e ∧ 1 ≤ e.m ∧ e.m ≤ 9 ∧ isName e.n = true ∧ 0 ≤ t ∧ ∀ H', Same H H' → Q (.bl true) H'
theorem ok_rightE (T0 : TOwn K mg ce xc) : FnAt P w K mg base CX0 "_law_right" 7 ["_law_end", "_law_which", "_law_name", "_law_most", "_law_turn"] (spRightE ce) := by
  have G__law_class : FnAt P w K mg base CX0 "_law_class" 1 _ (spClassE ce) := ok_classE T0
  have G_text : DispAt P w K mg base CX0 ce.has "text" 2 ["self"] (spE ce fun e => .str e.text) := disp_text T0.enk.ends
  have T := T0.enk.ends
  refine fnAt_ok T0.d_right sc__law_right (fun vs H Q E h => ?_) (fun f cdv A outer s H vs Q E hr h => ?_)
  · obtain ⟨v, e, t, rfl, _⟩ := h; rfl
  · obtain ⟨v, e, t, rfl, p, m1, m9, hn, ht, k⟩ := h
    have hnl := isName_len' hn
    have hal := ahead_len e.k
    have hml := most_len m1 m9
    refine ⟨_, (pss_cons (ps_set (i := 5) sc__law_right.nd rfl (by first | exact Or.inl rfl | exact Or.inr rfl) (pe_op op_add_str (pe_ix ix_list (pe_lst (pa_cons pe_str (pa_cons pe_str (pa_cons pe_str (pa_cons pe_str (pa_cons pe_str pa_nil)))))) (pv 1) (fun _ _ => rfl)) (pv 2)))
        (C8.pss_cut (ps_if (pt_cmpR op_gt (pv 1) pe_int (nomark _)) (pss_one (ps_set (i := 5) sc__law_right.nd rfl (by first | exact Or.inl rfl | exact Or.inr rfl) (pe_op op_add_str (pe_op op_add_str (pv 5) pe_str) (pe_callTy call_str_int (by rfl) T.z_str (by decide +kernel) (pa_cons (pv 3) pa_nil))))) pss_nil)
        (pss_cons (ps_for PassesOwn.never rfl (pi_list (pe_lst (pa_cons (pv 4) (pa_cons (pe_op op_add (pv 4) pe_int) (pa_cons (pe_op op_add (pv 4) pe_int) pa_nil))))) (pg_name (i := 6) sc__law_right.nd rfl (by first | exact Or.inl rfl | exact Or.inr rfl)) (pss_cons (ps_if (PW.pt (pw_and (pt_cmpR op_eq (pe_op op_mod (pv 6) pe_int) pe_int (nomark _)) (pw_and1 (PW.pt (pw_or (pt_not (pt_val (pe_callB call_isStr (by rfl) T.z_isinstance (by decide +kernel) (pa_cons (pe_methD0 G_text hr pass0 (pv 0)) (pa_cons (pe_bltn (v := .ty "str") (by rfl) T.z_str (by decide +kernel) rfl) pa_nil))))) (pw_or1 (pt_cmpR op_ne (pe_methD0 G_text hr pass0 (pv 0)) (pv 5) (nomark _)))))))) (pss_one (ps_ret pe_bl)) pss_nil)
          (pss_cons (ps_if (PW.pt (pw_and (pt_cmpR op_eq (pe_op op_mod (pv 6) pe_int) pe_int (nomark _)) (pw_and1 (pt_cmpR op_ne (pe_fld (pv 0) rfl) (pv 2) (nomark _))))) (pss_one (ps_ret pe_bl)) pss_nil)
          (pss_one (ps_if (PW.pt (pw_and (pt_cmpR op_eq (pe_op op_mod (pv 6) pe_int) pe_int (nomark _)) (pw_and1 (pt_cmpR op_gt (pv 1) pe_int (nomark _))))) (pss_one (ps_if (PW.pt (pw_or (pt_not (pt_val (pe_callB call_isInt (by rfl) T.z_isinstance (by decide +kernel) (pa_cons (pe_fld (pv 0) rfl) (pa_cons (pe_bltn (v := .ty "int") (by rfl) T.z_int (by decide +kernel) rfl) pa_nil))))) (pw_or (pt_val (pe_callB call_isBool (by rfl) T.z_isinstance (by decide +kernel) (pa_cons (pe_fld (pv 0) rfl) (pa_cons (pe_bltn (v := .ty "bool") (by rfl) T.z_bool (by decide +kernel) rfl) pa_nil)))) (pw_or1 (pt_cmpR op_ne (pe_fld (pv 0) rfl) (pv 3) (nomark _)))))) (pss_one (ps_ret pe_bl)) pss_nil)) pss_nil)))))
        (pss_one (ps_ret (pe_cmpR op_eq (pe_callF G__law_class hr pass0 (pa_cons (pv 0) pa_nil)) (pv 1) (nomark _))))))), ?_⟩
    walk_at "rd"
    refine ⟨line_ge (by simp), fun l nl => ⟨l, _, _, .str e.k.ahead, rfl, rfl, SqL.of upd_same, ahead_at e.k, _, rfl, line_ge (by omega), ?_⟩⟩
    have s1 := Same.new (o := .lst [.str "", .str "set ", .str "reset ", .str "timer ", .str "counter "]) nl
    refine ⟨fun σ' H' => σ' = [some v, some (.int e.k.ix), some (.str e.n), some (.int e.m), some (.int t), some (.str e.text), none] ∧ Same H H', ?_, ?_⟩
    · walk_at "rd"
      rw [counts_ix]
      unfold EndC.text EndC.behind
      cases hc : e.k.counts with
      | true =>
        refine iteT ⟨line_ge ?_, most_log m1 m9, line_ge ?_, ?_, s1⟩
        · rw [len_app]
          show e.k.ahead.length + e.n.length + 1 ≤ _
          omega
        · rw [len_app, len_app, hml]
          show e.k.ahead.length + e.n.length + 1 + 1 ≤ _
          omega
        · rw [if_pos rfl, app_assoc (e.k.ahead ++ e.n)]
      | false =>
        refine iteF ?_
        rw [if_neg (by decide), app_empty]
        exact ⟨rfl, s1⟩
    rintro σ1 H1 ⟨rfl, s2⟩
    refine ⟨_, rfl, _, rfl, t, 1, rfl, rfl, _, rfl, t, 2, rfl, rfl, line_ge (by simp), fun l2 nl2 => ?_⟩
    have s3 := s2.trans (Same.new (o := .lst [.int t, .int (t + 1), .int (t + 2)]) nl2)
    have hl2 : upd H1 l2 (.lst [.int t, .int (t + 1), .int (t + 2)]) l2 = _ := upd_same
    refine ⟨l2, rfl, ⟨_, SqL.of hl2⟩, for_list (K := K) (a := l2) (xs := [.int t, .int (t + 1), .int (t + 2)]) (fun i σ H' => ∃ v6 : Option V, σ = [some v, some (.int e.k.ix), some (.str e.n), some (.int e.m), some (.int t), some (.str e.text), v6] ∧ H' = upd H1 l2 (.lst [.int t, .int (t + 1), .int (t + 2)])) ⟨none, rfl, rfl⟩ (fun i σ H' _ ⟨_, _, e⟩ => by rw [e]; exact SqL.of hl2) ?_ ?_⟩
    · rintro i x σ H' hx ⟨v6, rfl, rfl⟩
      obtain ⟨lk, rfl, hlk⟩ : ∃ lk : Int, x = .int lk ∧ 0 ≤ lk := by
        have hm := List.mem_of_getElem? hx
        simp only [List.mem_cons, List.not_mem_nil, or_false] at hm
        rcases hm with rfl | rfl | rfl
        · exact ⟨_, rfl, by omega⟩
        · exact ⟨_, rfl, by omega⟩
        · exact ⟨_, rfl, by omega⟩
      obtain ⟨a, dx, rfl, ha⟩ := id p
      have ha3 := s3 _ _ ha
      have p3 : IsE ce (upd H1 l2 (.lst [.int t, .int (t + 1), .int (t + 2)])) (.ref a) e := ⟨a, dx, rfl, ha3⟩
      generalize upd H1 l2 (.lst [.int t, .int (t + 1), .int (t + 2)]) = H3 at s3 hl2 ha3 p3 ⊢
      walk_at "rd"
      have hno : List.lookup ("text" : Str) e.fs = none := E_no e (by decide +kernel) (by decide +kernel)
      have hlt : 0 ≤ lk % 3 ∧ lk % 3 < 3 := ⟨Int.emod_nonneg _ (by decide), Int.emod_lt_of_pos _ (by decide)⟩
      rcases (by omega : lk % 3 = 0 ∨ lk % 3 = 1 ∨ lk % 3 = 2) with h | h | h
      · rw [h]
        refine iteT ⟨_, rfl, a, ce.at e.k, dx, e.fs, rfl, ha3, ⟨_, rfl⟩, hno, .ref a, e, rfl, p3, rfl, m1, m9, hn, ?_⟩
        refine ⟨rfl, iteF ⟨_, rfl, a, ce.at e.k, dx, e.fs, rfl, ha3, ⟨_, rfl⟩, hno, .ref a, e, rfl, p3, rfl, m1, m9, hn, rfl, ?_⟩⟩
        rw [decide_eq_true (rfl : V.str e.text = V.str e.text)]
        exact iteF (iteF (iteF rfl))
      · rw [h]
        refine iteF (iteT ⟨_, rfl, a, _, dx, _, _, rfl, ha3, T.cls _, T.nn _, E_name e, rfl, ?_⟩)
        rw [decide_eq_true (rfl : V.str e.n = V.str e.n)]
        exact iteF (iteF rfl)
      · rw [h, counts_ix]
        refine iteF (iteF (iteT ?_))
        cases hc : e.k.counts with
        | false => first | exact iteF rfl | exact iteF ⟨_, rfl⟩ | exact iteF ⟨_, rfl, rfl⟩
        | true =>
          refine iteT ⟨_, rfl, a, _, dx, _, _, rfl, ha3, T.cls _, T.nm _ hc, E_most hc, rfl, iteF ?_⟩
          refine ⟨_, rfl, a, _, dx, _, _, rfl, ha3, T.cls _, T.nm _ hc, E_most hc, rfl, iteF ?_⟩
          refine ⟨_, rfl, a, _, dx, _, _, rfl, ha3, T.cls _, T.nm _ hc, E_most hc, scal_ii, ?_⟩
          rw [decide_eq_true (rfl : V.int e.m = V.int e.m)]
          first | exact iteF rfl | exact iteF ⟨_, rfl⟩ | exact iteF ⟨_, rfl, rfl⟩
    · rintro σ H' ⟨v6, rfl, rfl⟩
      walk_at "rd"
      exact ⟨_, e, rfl, p.mono (Same.imm s3), fun H4 s4 => ⟨scal_ii, by rw [decide_eq_true rfl]; exact k _ (s3.trans s4)⟩⟩
end
/-! ## the law -/
abbrev s_law : Stmt := top 37
theorem sc_law : FnScope ["_law_script", "_law_names_here", "_law_which", "_law_most", "_law_far", "_law_wrong", "_law_pick", "_law_texts", "_law_bad", "_law_end", "_law_other"] ["_law_script"] (defScope s_law) := ⟨rfl, rfl, rfl, by decide +kernel, rfl, by decide +kernel, by decide +kernel⟩
structure Txt (K : PySem.W.Frag) (mg : Str → Option Value) (ce : Ce) (xc : Xc) : Prop where
  own : TOwn K mg ce xc
  n2 : TNames2 K mg
  law : LawAt K mg s_law "_law_script"
section
variable {P : Program} {w : World} {K : PySem.W.Frag} {mg : Str → Option Value} {base : Heap} {ce : Ce} {xc : Xc}
theorem bad_mem {x : Nat} {z : Str} (h : x ∈ z.cps.toList) (hx : isLow x = false) : isName z = false := by
  unfold isName isWord
  have e : (z.cps.toList.all isLow) = false := by
    rw [← Bool.not_eq_true]
    intro ha
    have := List.all_eq_true.mp ha x h
    rw [hx] at this
    cases this
  simp [e]
def badT (n : Str) : List Str := ["", "A" ++ cutS n (some 1) none, n ++ " ", "ninesigns", "a1", cutS n none (some 3) ++ "_", "x\ny", " ", "timer", "on"]
def badT2 : List Str := ["off", "and", "or", "not", "set", "reset", "counter", "inputs", "outputs"]
theorem mem_appR {a b : Str} {x : Nat} (h : x ∈ b.cps.toList) : x ∈ (a ++ b).cps.toList := by
  show x ∈ (a.cps ++ b.cps).toList
  rw [Array.toList_append]
  exact List.mem_append_right _ h
theorem mem_appL {a b : Str} {x : Nat} (h : x ∈ a.cps.toList) : x ∈ (a ++ b).cps.toList := by
  show x ∈ (a.cps ++ b.cps).toList
  rw [Array.toList_append]
  exact List.mem_append_left _ h
theorem bad_all (n : Str) : ∀ z ∈ badT n ++ badT2, isName z = false := by
  have h2 : ∀ z ∈ badT2, isName z = false := by decide +kernel
  intro z hz
  rcases List.mem_append.mp hz with h | h
  · unfold badT at h
    simp only [List.mem_cons, List.not_mem_nil, or_false] at h
    rcases h with rfl | rfl | rfl | rfl | rfl | rfl | rfl | rfl | rfl | rfl
    · decide +kernel
    · exact bad_mem (x := 65) (mem_appL (by decide +kernel)) (by decide)
    · exact bad_mem (x := 32) (mem_appR (by decide +kernel)) (by decide)
    · decide +kernel
    · decide +kernel
    · exact bad_mem (x := 95) (mem_appR (by decide +kernel)) (by decide)
    · decide +kernel
    · decide +kernel
    · decide +kernel
    · decide +kernel
  · exact h2 z h
theorem bad_len (n : Str) (h : n.length ≤ 8) : ∀ z ∈ badT n ++ badT2, z.length ≤ 10 := by
  have h2 : ∀ z ∈ badT2, z.length ≤ 10 := by decide +kernel
  have hc1 := cutS_le n (some 1) none
  have hc3 := cutS_le n none (some 3)
  have lA : ("A" : Str).length = 1 := rfl
  have lS : (" " : Str).length = 1 := rfl
  have lU : ("_" : Str).length = 1 := rfl
  intro z hz
  rcases List.mem_append.mp hz with h | h
  · unfold badT at h
    simp only [List.mem_cons, List.not_mem_nil, or_false] at h
    rcases h with rfl | rfl | rfl | rfl | rfl | rfl | rfl | rfl | rfl | rfl
    · decide +kernel
    · rw [len_app]; omega
    · rw [len_app]; omega
    · decide +kernel
    · decide +kernel
    · rw [len_app]; omega
    · decide +kernel
    · decide +kernel
    · decide +kernel
    · decide +kernel
  · exact h2 z h
theorem made_calm {H : Hp} {k : Ek} {n : Str} {m : Int} {Q : VK} (hl : n.length ≤ 1000000) (hn : isName n = true) (m1 : 1 ≤ m) (m9 : m ≤ 9) (q : ∀ (H' : Hp) (x : Addr), Same H H' → IsE ce H' (.ref x) ⟨k, n, m⟩ → Q (.ref x) H') : spMadeE ce xc [.int k.ix, .str n, .int m] H Q E0 :=
  ⟨k, n, m, rfl, hl, fun _ _ _ => q, (fun hb => by rw [hn] at hb; cases hb), fun _ _ hm => absurd ⟨m1, m9⟩ hm, fun _ _ => ⟨m1, m9⟩⟩
theorem ok_law (T : Txt K mg ce xc) {f : Addr} {fd : FuncData} (F : Fun K "law" "law" s_law f fd) : FnOk P w K mg base CX0 50 f fd ["_law_script"] (spLaw K) := by
  have G__law_cell_at : FnAt P w K mg base CX0 "_law_cell_at" 2 _ (spCellAt K) := ok_cell_at T.n2.cells
  have G__law_far_at : FnAt P w K mg base CX0 "_law_far_at" 1 _ (spFarAt K) := ok_far_at T.own
  have G__law_names : FnAt P w K mg base CX0 "_law_names" 2 _ spNames := ok_names T.n2
  have G__law_refused : FnAt P w K mg base CX0 "_law_refused" 7 _ spRefusedE := ok_refusedE T.own
  have G__law_made : FnAt P w K mg base CX0 "_law_made" 6 _ (fun vs H Q _ => spMadeE ce xc vs H Q E0) := (ok_madeE T.own).calm
  have G__law_right : FnAt P w K mg base CX0 "_law_right" 7 _ (spRightE ce) := ok_rightE T.own
  refine F.ok sc_law (fun vs H Q E h => ?_) (fun cdv A outer s H vs Q E hr h => ?_)
  · obtain ⟨a, ns, rfl, _⟩ := h; rfl
  · obtain ⟨a, script, rfl, hS, hlen, k⟩ := h
    refine ⟨_, (pss_cons (ps_set (i := 1) sc_law.nd rfl (by first | exact Or.inl rfl | exact Or.inr rfl) (pe_callF G__law_names hr pass0 (pa_cons (pe_callF G__law_cell_at hr pass0 (pa_cons (pv 0) (pa_cons pe_int pa_nil))) (pa_cons pe_int pa_nil))))
        (pss_cons (ps_set (i := 2) sc_law.nd rfl (by first | exact Or.inl rfl | exact Or.inr rfl) (pe_op op_mod (pe_callF G__law_cell_at hr pass0 (pa_cons (pv 0) (pa_cons pe_int pa_nil))) pe_int))
        (pss_cons (ps_set (i := 3) sc_law.nd rfl (by first | exact Or.inl rfl | exact Or.inr rfl) (pe_op op_add pe_int (pe_op op_mod (pe_callF G__law_cell_at hr pass0 (pa_cons (pv 0) (pa_cons pe_int pa_nil))) pe_int)))
        (pss_cons (ps_set (i := 4) sc_law.nd rfl (by first | exact Or.inl rfl | exact Or.inr rfl) (pe_callF G__law_far_at hr pass0 (pa_cons (pv 0) (pa_cons pe_int pa_nil))))
        (pss_cons (ps_set (i := 5) sc_law.nd rfl (by first | exact Or.inl rfl | exact Or.inr rfl) (pe_ix ix_list (pe_lst (pa_cons pe_int (pa_cons pe_int (pa_cons (pe_un un_neg pe_int) (pa_cons (pe_op op_add pe_int (pe_op op_mod (pv 4) (pe_op op_pow pe_int pe_int))) (pa_cons (pe_op op_sub (pe_un un_neg pe_int) (pe_op op_mod (pv 4) (pe_op op_pow pe_int pe_int))) pa_nil)))))) (pe_op op_mod (pv 4) pe_int) (fun _ _ => rfl)))
        (pss_cons (ps_set (i := 6) sc_law.nd rfl (by first | exact Or.inl rfl | exact Or.inr rfl) (pe_callF G__law_cell_at hr pass0 (pa_cons (pv 0) (pa_cons pe_int pa_nil))))
        (pss_cons (ps_set (i := 7) sc_law.nd rfl (by first | exact Or.inl rfl | exact Or.inr rfl) (pe_lst (pa_cons pe_str (pa_cons (pe_op op_add_str pe_str (pe_slice sl_str (pe_ix ix_list (pv 1) pe_int (fun _ _ => rfl)) (po_some pe_int) po_none)) (pa_cons (pe_op op_add_str (pe_ix ix_list (pv 1) pe_int (fun _ _ => rfl)) pe_str) (pa_cons pe_str (pa_cons pe_str (pa_cons (pe_op op_add_str (pe_slice sl_str (pe_ix ix_list (pv 1) pe_int (fun _ _ => rfl)) po_none (po_some pe_int)) pe_str) (pa_cons pe_str (pa_cons pe_str (pa_cons pe_str (pa_cons pe_str pa_nil))))))))))))
        (pss_cons (ps_set (i := 8) sc_law.nd rfl (by first | exact Or.inl rfl | exact Or.inr rfl) (pe_ix ix_list (pe_op op_cat (pv 7) (pe_lst (pa_cons pe_str (pa_cons pe_str (pa_cons pe_str (pa_cons pe_str (pa_cons pe_str (pa_cons pe_str (pa_cons pe_str (pa_cons pe_str (pa_cons pe_str pa_nil))))))))))) (pe_op op_mod (pv 6) pe_int) (fun _ _ => rfl)))
        (C8.pss_cut (ps_if (PW.pt (pw_or (pt_cmpR op_ne (pe_callF G__law_refused hr pass0 (pa_cons (pv 2) (pa_cons (pv 8) (pa_cons (pv 3) pa_nil)))) pe_str (nomark _)) (pw_or1 (PW.pt (pw_and (pt_cmpR op_gt (pv 2) pe_int (nomark _)) (pw_and1 (pt_cmpR op_ne (pe_callF G__law_refused hr pass0 (pa_cons (pv 2) (pa_cons (pv 8) (pa_cons (pv 5) pa_nil)))) pe_str (nomark _)))))))) (pss_one (ps_ret pe_bl)) pss_nil)
        (C8.pss_cut (ps_if (PW.pt (pw_and (pt_cmpR op_gt (pv 2) pe_int (nomark _)) (pw_and1 (pt_cmpR op_ne (pe_callF G__law_refused hr pass0 (pa_cons (pv 2) (pa_cons (pe_ix ix_list (pv 1) pe_int (fun _ _ => rfl)) (pa_cons (pv 5) pa_nil)))) pe_str (nomark _))))) (pss_one (ps_ret pe_bl)) pss_nil)
        (pss_cons (ps_set (i := 9) sc_law.nd rfl (by first | exact Or.inl rfl | exact Or.inr rfl) (pe_callF G__law_made hr pass0 (pa_cons (pv 2) (pa_cons (pe_ix ix_list (pv 1) pe_int (fun _ _ => rfl)) (pa_cons (pv 3) pa_nil)))))
        (pss_cons (ps_if (pt_not (pt_val (pe_callF G__law_right hr pass0 (pa_cons (pv 9) (pa_cons (pv 2) (pa_cons (pe_ix ix_list (pv 1) pe_int (fun _ _ => rfl)) (pa_cons (pv 3) (pa_cons (pe_op op_mod (pe_op op_fdiv (pv 6) pe_int) pe_int) pa_nil)))))))) (pss_one (ps_ret pe_bl)) pss_nil)
        (pss_cons (ps_set (i := 10) sc_law.nd rfl (by first | exact Or.inl rfl | exact Or.inr rfl) (pe_callF G__law_made hr pass0 (pa_cons (pe_op op_mod (pe_op op_fdiv (pv 6) pe_int) pe_int) (pa_cons (pe_ix ix_list (pv 1) pe_int (fun _ _ => rfl)) (pa_cons (pe_op op_add pe_int (pe_op op_mod (pe_op op_fdiv (pv 6) pe_int) pe_int)) pa_nil)))))
        (pss_cons (ps_if (pt_not (pt_val (pe_callF G__law_right hr pass0 (pa_cons (pv 10) (pa_cons (pe_op op_mod (pe_op op_fdiv (pv 6) pe_int) pe_int) (pa_cons (pe_ix ix_list (pv 1) pe_int (fun _ _ => rfl)) (pa_cons (pe_op op_add pe_int (pe_op op_mod (pe_op op_fdiv (pv 6) pe_int) pe_int)) (pa_cons pe_int pa_nil)))))))) (pss_one (ps_ret pe_bl)) pss_nil)
        (pss_one (ps_ret (pe_callF G__law_right hr pass0 (pa_cons (pv 9) (pa_cons (pv 2) (pa_cons (pe_ix ix_list (pv 1) pe_int (fun _ _ => rfl)) (pa_cons (pv 3) (pa_cons (pe_op op_mod (pe_op op_fdiv (pv 6) pe_int) pe_int) pa_nil)))))))))))))))))))))), ?_⟩
    walk_at "rd"
    refine ⟨a, script, 0, rfl, hS, by decide, fun c0 c00 _ _ => ⟨c0, 2, rfl, c00, by decide, by decide, fun H1 pn ns s1 fn hN => ?_⟩⟩
    obtain ⟨n0, n1, rfl⟩ : ∃ n0 n1, ns = [n0, n1] := by
      have hl := hN.len
      rcases ns with _ | ⟨n0, _ | ⟨n1, _ | _⟩⟩
      · cases hl
      · cases hl
      · exact ⟨n0, n1, rfl⟩
      · cases hl
    have hn0 := hN.ok n0 (by simp)
    have hn1 := hN.ok n1 (by simp)
    have hl0 := isName_len' hn0
    have hl1 := isName_len' hn1
    have hP : H1 pn = some (.lst [.str n0, .str n1]) := hN.at_
    refine ⟨a, script, 1, rfl, s1.seq hS, by decide, fun c1 p1 _ _ => ⟨_, rfl, a, script, 2, rfl, s1.seq hS, by decide, fun c2 p2 _ _ => ⟨_, rfl, a, script, 3, rfl, s1.seq hS, by decide, fun far => ?_⟩⟩⟩
    obtain ⟨k0, ek0⟩ := Ek.of_ix (i := c1 % 5) (Int.emod_nonneg _ (by decide)) (Int.emod_lt_of_pos _ (by decide))
    rw [← ek0]
    have m1 : 1 ≤ 1 + c2 % 9 := by have := Int.emod_nonneg c2 (show (9 : Int) ≠ 0 by decide); omega
    have m9 : 1 + c2 % 9 ≤ 9 := by have := Int.emod_lt_of_pos c2 (show (0 : Int) < 9 by decide); omega
    generalize 1 + c2 % 9 = most at m1 m9 ⊢
    walk_at "rd"
    have hB : (0 : Int) < 10 ^ Int.toNat 40 := by decide +kernel
    generalize (10 : Int) ^ Int.toNat 40 = B at hB ⊢
    have cp : CPow 10 40 := ⟨by decide, by decide, by decide⟩
    have hfb := Int.emod_nonneg far (show B ≠ 0 by omega)
    generalize far % B = fb at hfb ⊢
    refine ⟨1, rfl, cp, hB, 2, rfl, cp, hB, _, rfl, line_ge (by simp), fun l nl => ?_⟩
    have s2 := s1.trans (Same.new (o := .lst [.int 0, .int 10, .int (-1), .int (11 + fb), .int (-2 - fb)]) nl)
    have hP2 := Same.new (o := .lst [.int 0, .int 10, .int (-1), .int (11 + fb), .int (-2 - fb)]) nl _ _ hP
    obtain ⟨y, hy, hya⟩ := atI_ex (xs := [V.int 0, V.int 10, V.int (-1), V.int (11 + fb), V.int (-2 - fb)]) (i := far % 5) (Int.emod_nonneg _ (by decide)) (Int.emod_lt_of_pos _ (by decide))
    obtain ⟨wr, rfl, hwr⟩ : ∃ wr : Int, y = .int wr ∧ ¬ (1 ≤ wr ∧ wr ≤ 9) := by
      simp only [List.mem_cons, List.not_mem_nil, or_false] at hy
      rcases hy with rfl | rfl | rfl | rfl | rfl
      · exact ⟨_, rfl, by omega⟩
      · exact ⟨_, rfl, by omega⟩
      · exact ⟨_, rfl, by omega⟩
      · exact ⟨_, rfl, by omega⟩
      · exact ⟨_, rfl, by omega⟩
    refine ⟨l, _, _, .int wr, rfl, rfl, SqL.of upd_same, hya, ?_⟩
    generalize upd H1 l (.lst [.int 0, .int 10, .int (-1), .int (11 + fb), .int (-2 - fb)]) = H2 at s2 hP2 ⊢
    refine ⟨a, script, 4, rfl, s2.seq hS, by decide, fun c4 p4 _ _ => ?_⟩
    have hc1 := cutS_le n0 (some 1) none
    have hc3 := cutS_le n0 none (some 3)
    have lA : ("A" : Str).length = 1 := rfl
    have lS : (" " : Str).length = 1 := rfl
    have lU : ("_" : Str).length = 1 := rfl
    refine ⟨pn, _, 0, .str n0, rfl, rfl, SqL.of hP2, rfl, n0, rfl, line_ge (by omega), line_ge (by omega), pn, _, 0, .str n0, rfl, rfl, SqL.of hP2, rfl, n0, rfl, line_ge (by omega), pn, _, 0, .str n0, rfl, rfl, SqL.of hP2, rfl, n0, rfl, line_ge (by omega), line_ge (by omega), line_ge (by simp), fun q1 m1' => ⟨line_ge (by simp), fun q2 m2 => ⟨q1, q2, _, _, rfl, rfl, Same.new m2 _ _ upd_same, upd_same, line_ge (by simp), fun q3 m3 => ?_⟩⟩⟩
    have t2 := (Same.new m1').trans ((Same.new (o := .lst (badT2.map V.str)) m2).trans (Same.new (o := .lst ((badT n0).map V.str ++ badT2.map V.str)) m3))
    have s3 := s2.trans t2
    have hP3 := t2 _ _ hP2
    have hq3 : upd (upd (upd H2 q1 (.lst ((badT n0).map V.str))) q2 (.lst (badT2.map V.str))) q3 (.lst ((badT n0).map V.str ++ badT2.map V.str)) q3 = _ := upd_same
    obtain ⟨y, hy, hya⟩ := atI_ex (xs := (badT n0 ++ badT2).map V.str) (i := c4 % 19) (Int.emod_nonneg _ (by decide)) (Int.emod_lt_of_pos _ (by decide))
    obtain ⟨bad, hbm, rfl⟩ := List.mem_map.mp hy
    have hbn := bad_all n0 bad hbm
    have hbl := bad_len n0 hl0 bad hbm
    rw [List.map_append] at hya
    refine ⟨c4, rfl, q3, _, c4 % 19, .str bad, rfl, rfl, SqL.of hq3, hya, ?_⟩
    have eN : decide (V.str "name" = V.str "name") = true := decide_eq_true rfl
    have eE : decide (V.str "end" = V.str "end") = true := decide_eq_true rfl
    refine ⟨fun σ' H' => σ' = [some (.ref a), some (.ref pn), some (.int k0.ix), some (.int most), some (.int far), some (.int wr), some (.int c4), some (.ref q1), some (.str bad), none, none] ∧ Same H2 H', ?_, ?_⟩
    · walk_at "rd"
      refine ⟨k0, bad, most, rfl, by omega, .inl ⟨hbn, fun H4 t4 => ⟨rfl, ?_⟩⟩⟩
      rw [eN]
      refine iteF ?_
      by_cases h2 : 2 < k0.ix
      · rw [decide_eq_true h2]
        refine iteT ⟨k0, bad, wr, rfl, by omega, .inl ⟨hbn, fun H5 t5 => ⟨rfl, ?_⟩⟩⟩
        rw [eN]
        exact iteF (t2.trans (t4.trans t5))
      · rw [decide_eq_false h2]
        exact iteF (t2.trans t4)
    rintro σ3 H3 ⟨rfl, t3⟩
    clear hq3 hya s3 t2
    refine ⟨fun σ' H' => σ' = [some (.ref a), some (.ref pn), some (.int k0.ix), some (.int most), some (.int far), some (.int wr), some (.int c4), some (.ref q1), some (.str bad), none, none] ∧ Same H2 H', ?_, ?_⟩
    · walk_at "rd"
      by_cases h2 : 2 < k0.ix
      · rw [decide_eq_true h2]
        refine iteT ⟨pn, _, 0, .str n0, rfl, rfl, SqL.of (t3 _ _ hP2), rfl, k0, n0, wr, rfl, by omega, .inr ⟨hn0, by rw [← counts_ix, decide_eq_true h2], hwr, fun H5 t5 => ⟨rfl, ?_⟩⟩⟩
        rw [eE]
        exact iteF (t3.trans t5)
      · rw [decide_eq_false h2]
        exact iteF t3
    rintro σ4 H4 ⟨rfl, t4⟩
    walk_at "rd"
    refine ⟨pn, _, 0, .str n0, rfl, rfl, SqL.of (t4 _ _ hP2), rfl, made_calm (by omega) hn0 m1 m9 fun H5 x t5 px => ?_⟩
    have h19 : 0 ≤ c4 / 19 % 3 := Int.emod_nonneg _ (by decide)
    have h3 : 0 ≤ c4 / 3 % 3 := Int.emod_nonneg _ (by decide)
    have u5 := t4.trans t5
    refine ⟨pn, _, 0, .str n0, rfl, rfl, SqL.of (u5 _ _ hP2), rfl, .ref x, ⟨k0, n0, most⟩, _, rfl, px, m1, m9, hn0, h19, fun H6 t6 => ⟨true, rfl, iteF ?_⟩⟩
    have u6 := u5.trans t6
    obtain ⟨k1, ek1⟩ := Ek.of_ix (i := c4 / 57 % 5) (Int.emod_nonneg _ (by decide)) (Int.emod_lt_of_pos _ (by decide))
    have w1 : 1 ≤ 1 + c4 / 285 % 9 := by have := Int.emod_nonneg (c4 / 285) (show (9 : Int) ≠ 0 by decide); omega
    have w9 : 1 + c4 / 285 % 9 ≤ 9 := by have := Int.emod_lt_of_pos (c4 / 285) (show (0 : Int) < 9 by decide); omega
    refine ⟨pn, _, 1, .str n1, rfl, rfl, SqL.of (u6 _ _ hP2), rfl, ?_⟩
    rw [← ek1]
    refine made_calm (by omega) hn1 w1 w9 fun H7 y t7 py => ?_
    have u7 := u6.trans t7
    refine ⟨pn, _, 1, .str n1, rfl, rfl, SqL.of (u7 _ _ hP2), rfl, ?_⟩
    refine ⟨.ref y, ⟨k1, n1, 1 + c4 / 285 % 9⟩, 0, rfl, py, w1, w9, hn1, by decide, fun H8 t8 => ⟨true, rfl, iteF ?_⟩⟩
    have u8 := u7.trans t8
    exact ⟨pn, _, 0, .str n0, rfl, rfl, SqL.of (u8 _ _ hP2), rfl, .ref x, ⟨k0, n0, most⟩, _, rfl, px.mono (Same.imm (t6.trans (t7.trans t8))), m1, m9, hn0, h3, fun H9 _ => k H9⟩
end
theorem fin {P : Program} {w : World} {K : PySem.W.Frag} {mg : Str → Option Value} {h : Heap} {fa : Addr} {ce : Ce} {xc : Xc} (X : K.In h) (G : h.Ns mainGlobals mg) (hfa : mg "law" = some (.ref fa)) (T : Txt K mg ce xc) :
    ∃ fd : FuncData, (∀ (s : Shared) (u : Value), BindsTo s fd ⟨[u], []⟩ [("_law_script", u)]) ∧ ∀ base : Heap, K.In base → base.Ns mainGlobals mg → FnOk P w K mg base CX0 50 fa fd ["_law_script"] (spLaw K) :=
  law_end T.law hfa fun base f fd F => ok_law T F
theorem fin' {P : Program} {w : World} {K : PySem.W.Frag} {mg : Str → Option Value} {h : Heap} {fa c1 c2 c3 c4 c5 c6 xe xn xp xf1 xf2 xf3 xf4 xf5 xf6 xf7 xf8 : Addr} (X : K.In h) (G : h.Ns mainGlobals mg) (hfa : mg "law" = some (.ref fa))
    (a1 : PySem.W.nsIn K mainGlobals "Coil" = some (some (.ref c1))) (a2 : PySem.W.nsIn K mainGlobals "Latch" = some (some (.ref c2))) (a3 : PySem.W.nsIn K mainGlobals "Unlatch" = some (some (.ref c3))) (a4 : PySem.W.nsIn K mainGlobals "Timer" = some (some (.ref c4))) (a5 : PySem.W.nsIn K mainGlobals "Counter" = some (some (.ref c5))) (a17 : PySem.W.nsIn K mainGlobals "End" = some (some (.ref c6))) (a6 : PySem.W.nsIn K mainGlobals "LadderError" = some (some (.ref xe))) (a7 : PySem.W.nsIn K mainGlobals "NoName" = some (some (.ref xn))) (a8 : PySem.W.nsIn K mainGlobals "NoPart" = some (some (.ref xp))) (a9 : PySem.W.nsIn K mainGlobals "NoEnd" = some (some (.ref xf1))) (a10 : PySem.W.nsIn K mainGlobals "NoLadder" = some (some (.ref xf2))) (a11 : PySem.W.nsIn K mainGlobals "NoMatch" = some (some (.ref xf3))) (a12 : PySem.W.nsIn K mainGlobals "NoRow" = some (some (.ref xf4))) (a13 : PySem.W.nsIn K mainGlobals "NoSheet" = some (some (.ref xf5))) (a14 : PySem.W.nsIn K mainGlobals "NoState" = some (some (.ref xf6))) (a15 : PySem.W.nsIn K mainGlobals "NoText" = some (some (.ref xf7))) (a16 : PySem.W.nsIn K mainGlobals "TooMany" = some (some (.ref xf8))) (T : Txt K mg ⟨c1, c2, c3, c4, c5, c6⟩ ⟨xe, xn, xp, xf1, xf2, xf7, xf4, xf5, xf6, xf3, xf8⟩) :
    ∃ fd : FuncData, (∀ (s : Shared) (u : Value), BindsTo s fd ⟨[u], []⟩ [("_law_script", u)]) ∧ ∀ base : Heap, K.In base → base.Ns mainGlobals mg → FnOk P w K mg base CX0 50 fa fd ["_law_script"] (spLaw K) :=
  fin X G hfa T
end My
end
section
open PySem L2 Ru
namespace My
theorem split_TKind2 {K : PySem.W.Frag} {mg : Str → Option Value} {ce : Ce} {xc : Xc} (p : TKind2 K mg xc) (f : TKind2 K mg xc → Txt K mg ce xc) : Txt K mg ce xc := f p
theorem split_TNames {K : PySem.W.Frag} {mg : Str → Option Value} {ce : Ce} {xc : Xc} (p : TNames K mg) (f : TNames K mg → Txt K mg ce xc) : Txt K mg ce xc := f p
theorem split_TEnds {K : PySem.W.Frag} {mg : Str → Option Value} {ce : Ce} {xc : Xc} (p : TEnds K mg ce) (f : TEnds K mg ce → Txt K mg ce xc) : Txt K mg ce xc := f p
theorem split_TEnK {K : PySem.W.Frag} {mg : Str → Option Value} {ce : Ce} {xc : Xc} (p : TEnK K mg ce) (f : TEnK K mg ce → Txt K mg ce xc) : Txt K mg ce xc := f p
theorem split_TOwn {K : PySem.W.Frag} {mg : Str → Option Value} {ce : Ce} {xc : Xc} (p : TOwn K mg ce xc) (f : TOwn K mg ce xc → Txt K mg ce xc) : Txt K mg ce xc := f p
theorem split_TCells {K : PySem.W.Frag} {mg : Str → Option Value} {ce : Ce} {xc : Xc} (p : TCells K mg) (f : TCells K mg → Txt K mg ce xc) : Txt K mg ce xc := f p
theorem split_TNames2 {K : PySem.W.Frag} {mg : Str → Option Value} {ce : Ce} {xc : Xc} (p : TNames2 K mg) (f : TNames2 K mg → Txt K mg ce xc) : Txt K mg ce xc := f p
end My
end
open PySem PySem.W PyProof.Rows
set_option maxRecDepth 100000 in
set_option maxHeartbeats 0 in
theorem PySem.Challenge.cw_rungworks_k11_ends_holds : PySem.Challenge.rw_rungworks_k11_ends.Holds := by
  w_on; o_law; k_head; (case hw => w_witness2)
  k_fill
  refine Ru.law_walk (l := PySem.Challenge.rw_rungworks_k11_ends) (k := 50) (p := "_law_script") (cx := L2.CX0) ⟨rfl, by decide, by decide⟩ rfl rfl (fun w h Y => PySem.W.kIn_of Y) (fun _ _ _ _ z => z) ?F
  case F =>
    intro w mg fa h KX G hmg
    refine' My.fin' KX G hmg ?a1 ?a2 ?a3 ?a4 ?a5 ?a17 ?a6 ?a7 ?a8 ?a9 ?a10 ?a11 ?a12 ?a13 ?a14 ?a15 ?a16 ?T
    (case a1 => k_is)
    (case a2 => k_is)
    (case a3 => k_is)
    (case a4 => k_is)
    (case a5 => k_is)
    (case a17 => k_is)
    (case a6 => k_is)
    (case a7 => k_is)
    (case a8 => k_is)
    (case a9 => k_is)
    (case a10 => k_is)
    (case a11 => k_is)
    (case a12 => k_is)
    (case a13 => k_is)
    (case a14 => k_is)
    (case a15 => k_is)
    (case a16 => k_is)
    case T =>
      refine' My.split_TKind2 ?p_TKind2 (fun s_TKind2 => ?t_TKind2)
      case p_TKind2 =>
        refine' ⟨?TKind2_e_err, ?TKind2_e_name, ?TKind2_e_part, ?TKind2_e_end, ?TKind2_e_ladder, ?TKind2_e_text, ?TKind2_e_row, ?TKind2_e_sheet, ?TKind2_e_state, ?TKind2_e_match, ?TKind2_e_many, ?TKind2_ndx, ?TKind2_d_kind, ?TKind2_z_isinstance, ?TKind2_z_ValueError⟩
        (case TKind2_e_err => (refine' Ru.errAt_mk KX G ?a_TKind2_e_err ?b_TKind2_e_err ?c_TKind2_e_err ?d_TKind2_e_err; (case a_TKind2_e_err => k_is); (case b_TKind2_e_err => k_is); (case c_TKind2_e_err => k_is); (case d_TKind2_e_err => k_is)))
        (case TKind2_e_name => (refine' Ru.excAt_mk KX G ?a_TKind2_e_name ?b_TKind2_e_name ?c_TKind2_e_name ?d_TKind2_e_name ?e_TKind2_e_name ?f_TKind2_e_name ?g_TKind2_e_name ?i_TKind2_e_name ?j_TKind2_e_name ?k_TKind2_e_name ?l_TKind2_e_name ?m_TKind2_e_name ?n_TKind2_e_name ?o_TKind2_e_name; (case a_TKind2_e_name => k_is); (case c_TKind2_e_name => k_is); (case d_TKind2_e_name => k_is); (case e_TKind2_e_name => k_is); (case f_TKind2_e_name => k_is); (case g_TKind2_e_name => k_is); (case i_TKind2_e_name => k_is); (case j_TKind2_e_name => k_is); (case k_TKind2_e_name => k_is); (case l_TKind2_e_name => k_is); (case m_TKind2_e_name => k_is); (case n_TKind2_e_name => k_is); (case b_TKind2_e_name => k_exc); (case o_TKind2_e_name => rfl)))
        (case TKind2_e_part => (refine' Ru.excAt_mk KX G ?a_TKind2_e_part ?b_TKind2_e_part ?c_TKind2_e_part ?d_TKind2_e_part ?e_TKind2_e_part ?f_TKind2_e_part ?g_TKind2_e_part ?i_TKind2_e_part ?j_TKind2_e_part ?k_TKind2_e_part ?l_TKind2_e_part ?m_TKind2_e_part ?n_TKind2_e_part ?o_TKind2_e_part; (case a_TKind2_e_part => k_is); (case c_TKind2_e_part => k_is); (case d_TKind2_e_part => k_is); (case e_TKind2_e_part => k_is); (case f_TKind2_e_part => k_is); (case g_TKind2_e_part => k_is); (case i_TKind2_e_part => k_is); (case j_TKind2_e_part => k_is); (case k_TKind2_e_part => k_is); (case l_TKind2_e_part => k_is); (case m_TKind2_e_part => k_is); (case n_TKind2_e_part => k_is); (case b_TKind2_e_part => k_exc); (case o_TKind2_e_part => rfl)))
        (case TKind2_e_end => (refine' Ru.excAt_mk KX G ?a_TKind2_e_end ?b_TKind2_e_end ?c_TKind2_e_end ?d_TKind2_e_end ?e_TKind2_e_end ?f_TKind2_e_end ?g_TKind2_e_end ?i_TKind2_e_end ?j_TKind2_e_end ?k_TKind2_e_end ?l_TKind2_e_end ?m_TKind2_e_end ?n_TKind2_e_end ?o_TKind2_e_end; (case a_TKind2_e_end => k_is); (case c_TKind2_e_end => k_is); (case d_TKind2_e_end => k_is); (case e_TKind2_e_end => k_is); (case f_TKind2_e_end => k_is); (case g_TKind2_e_end => k_is); (case i_TKind2_e_end => k_is); (case j_TKind2_e_end => k_is); (case k_TKind2_e_end => k_is); (case l_TKind2_e_end => k_is); (case m_TKind2_e_end => k_is); (case n_TKind2_e_end => k_is); (case b_TKind2_e_end => k_exc); (case o_TKind2_e_end => rfl)))
        (case TKind2_e_ladder => (refine' Ru.excAt_mk KX G ?a_TKind2_e_ladder ?b_TKind2_e_ladder ?c_TKind2_e_ladder ?d_TKind2_e_ladder ?e_TKind2_e_ladder ?f_TKind2_e_ladder ?g_TKind2_e_ladder ?i_TKind2_e_ladder ?j_TKind2_e_ladder ?k_TKind2_e_ladder ?l_TKind2_e_ladder ?m_TKind2_e_ladder ?n_TKind2_e_ladder ?o_TKind2_e_ladder; (case a_TKind2_e_ladder => k_is); (case c_TKind2_e_ladder => k_is); (case d_TKind2_e_ladder => k_is); (case e_TKind2_e_ladder => k_is); (case f_TKind2_e_ladder => k_is); (case g_TKind2_e_ladder => k_is); (case i_TKind2_e_ladder => k_is); (case j_TKind2_e_ladder => k_is); (case k_TKind2_e_ladder => k_is); (case l_TKind2_e_ladder => k_is); (case m_TKind2_e_ladder => k_is); (case n_TKind2_e_ladder => k_is); (case b_TKind2_e_ladder => k_exc); (case o_TKind2_e_ladder => rfl)))
        (case TKind2_e_text => (refine' Ru.excAt_mk KX G ?a_TKind2_e_text ?b_TKind2_e_text ?c_TKind2_e_text ?d_TKind2_e_text ?e_TKind2_e_text ?f_TKind2_e_text ?g_TKind2_e_text ?i_TKind2_e_text ?j_TKind2_e_text ?k_TKind2_e_text ?l_TKind2_e_text ?m_TKind2_e_text ?n_TKind2_e_text ?o_TKind2_e_text; (case a_TKind2_e_text => k_is); (case c_TKind2_e_text => k_is); (case d_TKind2_e_text => k_is); (case e_TKind2_e_text => k_is); (case f_TKind2_e_text => k_is); (case g_TKind2_e_text => k_is); (case i_TKind2_e_text => k_is); (case j_TKind2_e_text => k_is); (case k_TKind2_e_text => k_is); (case l_TKind2_e_text => k_is); (case m_TKind2_e_text => k_is); (case n_TKind2_e_text => k_is); (case b_TKind2_e_text => k_exc); (case o_TKind2_e_text => rfl)))
        (case TKind2_e_row => (refine' Ru.excAt_mk KX G ?a_TKind2_e_row ?b_TKind2_e_row ?c_TKind2_e_row ?d_TKind2_e_row ?e_TKind2_e_row ?f_TKind2_e_row ?g_TKind2_e_row ?i_TKind2_e_row ?j_TKind2_e_row ?k_TKind2_e_row ?l_TKind2_e_row ?m_TKind2_e_row ?n_TKind2_e_row ?o_TKind2_e_row; (case a_TKind2_e_row => k_is); (case c_TKind2_e_row => k_is); (case d_TKind2_e_row => k_is); (case e_TKind2_e_row => k_is); (case f_TKind2_e_row => k_is); (case g_TKind2_e_row => k_is); (case i_TKind2_e_row => k_is); (case j_TKind2_e_row => k_is); (case k_TKind2_e_row => k_is); (case l_TKind2_e_row => k_is); (case m_TKind2_e_row => k_is); (case n_TKind2_e_row => k_is); (case b_TKind2_e_row => k_exc); (case o_TKind2_e_row => rfl)))
        (case TKind2_e_sheet => (refine' Ru.excAt_mk KX G ?a_TKind2_e_sheet ?b_TKind2_e_sheet ?c_TKind2_e_sheet ?d_TKind2_e_sheet ?e_TKind2_e_sheet ?f_TKind2_e_sheet ?g_TKind2_e_sheet ?i_TKind2_e_sheet ?j_TKind2_e_sheet ?k_TKind2_e_sheet ?l_TKind2_e_sheet ?m_TKind2_e_sheet ?n_TKind2_e_sheet ?o_TKind2_e_sheet; (case a_TKind2_e_sheet => k_is); (case c_TKind2_e_sheet => k_is); (case d_TKind2_e_sheet => k_is); (case e_TKind2_e_sheet => k_is); (case f_TKind2_e_sheet => k_is); (case g_TKind2_e_sheet => k_is); (case i_TKind2_e_sheet => k_is); (case j_TKind2_e_sheet => k_is); (case k_TKind2_e_sheet => k_is); (case l_TKind2_e_sheet => k_is); (case m_TKind2_e_sheet => k_is); (case n_TKind2_e_sheet => k_is); (case b_TKind2_e_sheet => k_exc); (case o_TKind2_e_sheet => rfl)))
        (case TKind2_e_state => (refine' Ru.excAt_mk KX G ?a_TKind2_e_state ?b_TKind2_e_state ?c_TKind2_e_state ?d_TKind2_e_state ?e_TKind2_e_state ?f_TKind2_e_state ?g_TKind2_e_state ?i_TKind2_e_state ?j_TKind2_e_state ?k_TKind2_e_state ?l_TKind2_e_state ?m_TKind2_e_state ?n_TKind2_e_state ?o_TKind2_e_state; (case a_TKind2_e_state => k_is); (case c_TKind2_e_state => k_is); (case d_TKind2_e_state => k_is); (case e_TKind2_e_state => k_is); (case f_TKind2_e_state => k_is); (case g_TKind2_e_state => k_is); (case i_TKind2_e_state => k_is); (case j_TKind2_e_state => k_is); (case k_TKind2_e_state => k_is); (case l_TKind2_e_state => k_is); (case m_TKind2_e_state => k_is); (case n_TKind2_e_state => k_is); (case b_TKind2_e_state => k_exc); (case o_TKind2_e_state => rfl)))
        (case TKind2_e_match => (refine' Ru.excAt_mk KX G ?a_TKind2_e_match ?b_TKind2_e_match ?c_TKind2_e_match ?d_TKind2_e_match ?e_TKind2_e_match ?f_TKind2_e_match ?g_TKind2_e_match ?i_TKind2_e_match ?j_TKind2_e_match ?k_TKind2_e_match ?l_TKind2_e_match ?m_TKind2_e_match ?n_TKind2_e_match ?o_TKind2_e_match; (case a_TKind2_e_match => k_is); (case c_TKind2_e_match => k_is); (case d_TKind2_e_match => k_is); (case e_TKind2_e_match => k_is); (case f_TKind2_e_match => k_is); (case g_TKind2_e_match => k_is); (case i_TKind2_e_match => k_is); (case j_TKind2_e_match => k_is); (case k_TKind2_e_match => k_is); (case l_TKind2_e_match => k_is); (case m_TKind2_e_match => k_is); (case n_TKind2_e_match => k_is); (case b_TKind2_e_match => k_exc); (case o_TKind2_e_match => rfl)))
        (case TKind2_e_many => (refine' Ru.excAt_mk KX G ?a_TKind2_e_many ?b_TKind2_e_many ?c_TKind2_e_many ?d_TKind2_e_many ?e_TKind2_e_many ?f_TKind2_e_many ?g_TKind2_e_many ?i_TKind2_e_many ?j_TKind2_e_many ?k_TKind2_e_many ?l_TKind2_e_many ?m_TKind2_e_many ?n_TKind2_e_many ?o_TKind2_e_many; (case a_TKind2_e_many => k_is); (case c_TKind2_e_many => k_is); (case d_TKind2_e_many => k_is); (case e_TKind2_e_many => k_is); (case f_TKind2_e_many => k_is); (case g_TKind2_e_many => k_is); (case i_TKind2_e_many => k_is); (case j_TKind2_e_many => k_is); (case k_TKind2_e_many => k_is); (case l_TKind2_e_many => k_is); (case m_TKind2_e_many => k_is); (case n_TKind2_e_many => k_is); (case b_TKind2_e_many => k_exc); (case o_TKind2_e_many => rfl)))
        (case TKind2_ndx => decide)
        (case TKind2_d_kind => (refine' Ru.defAt_mk KX G ?a_TKind2_d_kind ?l_TKind2_d_kind ?c_TKind2_d_kind ?k_TKind2_d_kind ?b_TKind2_d_kind; (case a_TKind2_d_kind => k_is); (case l_TKind2_d_kind => k_is); (case c_TKind2_d_kind => k_is); (case k_TKind2_d_kind => k_is); (case b_TKind2_d_kind => exact fun us hl => match us, hl with | [_], _ => rfl)))
        (case TKind2_z_isinstance => (exact PySem.W.mg_none_of KX G (by k_is)))
        (case TKind2_z_ValueError => (exact PySem.W.mg_none_of KX G (by k_is)))
      refine' My.split_TNames ?p_TNames (fun s_TNames => ?t_TNames)
      case p_TNames =>
        refine' ⟨?TNames_d_is_word, ?TNames_d_is_name, ?TNames_g_SIGNS, ?TNames_g_MOST_SIGNS, ?TNames_g_KEPT, ?TNames_z_len⟩
        (case TNames_d_is_word => (refine' Ru.defAt_mk KX G ?a_TNames_d_is_word ?l_TNames_d_is_word ?c_TNames_d_is_word ?k_TNames_d_is_word ?b_TNames_d_is_word; (case a_TNames_d_is_word => k_is); (case l_TNames_d_is_word => k_is); (case c_TNames_d_is_word => k_is); (case k_TNames_d_is_word => k_is); (case b_TNames_d_is_word => exact fun us hl => match us, hl with | [_], _ => rfl)))
        (case TNames_d_is_name => (refine' Ru.defAt_mk KX G ?a_TNames_d_is_name ?l_TNames_d_is_name ?c_TNames_d_is_name ?k_TNames_d_is_name ?b_TNames_d_is_name; (case a_TNames_d_is_name => k_is); (case l_TNames_d_is_name => k_is); (case c_TNames_d_is_name => k_is); (case k_TNames_d_is_name => k_is); (case b_TNames_d_is_name => exact fun us hl => match us, hl with | [_], _ => rfl)))
        (case TNames_g_SIGNS => (refine' Ru.globC_mk KX G ?a_TNames_g_SIGNS ?r_TNames_g_SIGNS; (case a_TNames_g_SIGNS => k_is); (case r_TNames_g_SIGNS => exact ⟨_, rfl⟩)))
        (case TNames_g_MOST_SIGNS => (refine' Ru.globC_mk KX G ?a_TNames_g_MOST_SIGNS ?r_TNames_g_MOST_SIGNS; (case a_TNames_g_MOST_SIGNS => k_is); (case r_TNames_g_MOST_SIGNS => exact ⟨_, rfl⟩)))
        (case TNames_g_KEPT => (refine' Ru.globT_mk KX G ?a_TNames_g_KEPT ?l_TNames_g_KEPT ?s_TNames_g_KEPT ?v_TNames_g_KEPT; (case a_TNames_g_KEPT => k_is); (case l_TNames_g_KEPT => k_is); (case s_TNames_g_KEPT => exact Ru.line_ge (by decide)); (case v_TNames_g_KEPT => exact Ru.vals_of_B (by decide +kernel))))
        (case TNames_z_len => (exact PySem.W.mg_none_of KX G (by k_is)))
      refine' My.split_TEnds ?p_TEnds (fun s_TEnds => ?t_TEnds)
      case p_TEnds =>
        refine' ⟨s_TNames, ?TEnds_c_Coil, ?TEnds_c_Latch, ?TEnds_c_Unlatch, ?TEnds_c_Timer, ?TEnds_c_Counter, ?TEnds_c_End, ?TEnds_nn_coil, ?TEnds_nn_latch, ?TEnds_nn_unlatch, ?TEnds_nn_timer, ?TEnds_nn_counter, ?TEnds_nm_timer, ?TEnds_nm_counter, ?TEnds_m_ahead_coil, ?TEnds_m_ahead_latch, ?TEnds_m_ahead_unlatch, ?TEnds_m_ahead_timer, ?TEnds_m_ahead_counter, ?TEnds_m_behind_coil, ?TEnds_m_behind_latch, ?TEnds_m_behind_unlatch, ?TEnds_m_behind_timer, ?TEnds_m_behind_counter, ?TEnds_m_text_coil, ?TEnds_m_text_latch, ?TEnds_m_text_unlatch, ?TEnds_m_text_timer, ?TEnds_m_text_counter, ?TEnds_m_init_coil, ?TEnds_m_init_latch, ?TEnds_m_init_unlatch, ?TEnds_m_init_timer, ?TEnds_m_init_counter, ?TEnds_f_init, ?TEnds_nde, ?TEnds_z_isinstance, ?TEnds_z_int, ?TEnds_z_bool, ?TEnds_z_str, ?TEnds_g_MOST_COUNT⟩
        (case TEnds_c_Coil => (refine' Ru.clsAt_mk KX G ?a_TEnds_c_Coil ?b_TEnds_c_Coil ?c_TEnds_c_Coil ?d_TEnds_c_Coil ?e_TEnds_c_Coil ?f_TEnds_c_Coil ?g_TEnds_c_Coil ?h_TEnds_c_Coil ?i_TEnds_c_Coil ?j_TEnds_c_Coil ?k_TEnds_c_Coil; (case a_TEnds_c_Coil => k_is); (case b_TEnds_c_Coil => k_is); (case c_TEnds_c_Coil => k_is); (case d_TEnds_c_Coil => k_is); (case e_TEnds_c_Coil => k_is); (case f_TEnds_c_Coil => k_is); (case g_TEnds_c_Coil => k_is); (case h_TEnds_c_Coil => k_is); (case i_TEnds_c_Coil => k_is); (case j_TEnds_c_Coil => k_is); (case k_TEnds_c_Coil => k_is)))
        (case TEnds_c_Latch => (refine' Ru.clsAt_mk KX G ?a_TEnds_c_Latch ?b_TEnds_c_Latch ?c_TEnds_c_Latch ?d_TEnds_c_Latch ?e_TEnds_c_Latch ?f_TEnds_c_Latch ?g_TEnds_c_Latch ?h_TEnds_c_Latch ?i_TEnds_c_Latch ?j_TEnds_c_Latch ?k_TEnds_c_Latch; (case a_TEnds_c_Latch => k_is); (case b_TEnds_c_Latch => k_is); (case c_TEnds_c_Latch => k_is); (case d_TEnds_c_Latch => k_is); (case e_TEnds_c_Latch => k_is); (case f_TEnds_c_Latch => k_is); (case g_TEnds_c_Latch => k_is); (case h_TEnds_c_Latch => k_is); (case i_TEnds_c_Latch => k_is); (case j_TEnds_c_Latch => k_is); (case k_TEnds_c_Latch => k_is)))
        (case TEnds_c_Unlatch => (refine' Ru.clsAt_mk KX G ?a_TEnds_c_Unlatch ?b_TEnds_c_Unlatch ?c_TEnds_c_Unlatch ?d_TEnds_c_Unlatch ?e_TEnds_c_Unlatch ?f_TEnds_c_Unlatch ?g_TEnds_c_Unlatch ?h_TEnds_c_Unlatch ?i_TEnds_c_Unlatch ?j_TEnds_c_Unlatch ?k_TEnds_c_Unlatch; (case a_TEnds_c_Unlatch => k_is); (case b_TEnds_c_Unlatch => k_is); (case c_TEnds_c_Unlatch => k_is); (case d_TEnds_c_Unlatch => k_is); (case e_TEnds_c_Unlatch => k_is); (case f_TEnds_c_Unlatch => k_is); (case g_TEnds_c_Unlatch => k_is); (case h_TEnds_c_Unlatch => k_is); (case i_TEnds_c_Unlatch => k_is); (case j_TEnds_c_Unlatch => k_is); (case k_TEnds_c_Unlatch => k_is)))
        (case TEnds_c_Timer => (refine' Ru.clsAt_mk KX G ?a_TEnds_c_Timer ?b_TEnds_c_Timer ?c_TEnds_c_Timer ?d_TEnds_c_Timer ?e_TEnds_c_Timer ?f_TEnds_c_Timer ?g_TEnds_c_Timer ?h_TEnds_c_Timer ?i_TEnds_c_Timer ?j_TEnds_c_Timer ?k_TEnds_c_Timer; (case a_TEnds_c_Timer => k_is); (case b_TEnds_c_Timer => k_is); (case c_TEnds_c_Timer => k_is); (case d_TEnds_c_Timer => k_is); (case e_TEnds_c_Timer => k_is); (case f_TEnds_c_Timer => k_is); (case g_TEnds_c_Timer => k_is); (case h_TEnds_c_Timer => k_is); (case i_TEnds_c_Timer => k_is); (case j_TEnds_c_Timer => k_is); (case k_TEnds_c_Timer => k_is)))
        (case TEnds_c_Counter => (refine' Ru.clsAt_mk KX G ?a_TEnds_c_Counter ?b_TEnds_c_Counter ?c_TEnds_c_Counter ?d_TEnds_c_Counter ?e_TEnds_c_Counter ?f_TEnds_c_Counter ?g_TEnds_c_Counter ?h_TEnds_c_Counter ?i_TEnds_c_Counter ?j_TEnds_c_Counter ?k_TEnds_c_Counter; (case a_TEnds_c_Counter => k_is); (case b_TEnds_c_Counter => k_is); (case c_TEnds_c_Counter => k_is); (case d_TEnds_c_Counter => k_is); (case e_TEnds_c_Counter => k_is); (case f_TEnds_c_Counter => k_is); (case g_TEnds_c_Counter => k_is); (case h_TEnds_c_Counter => k_is); (case i_TEnds_c_Counter => k_is); (case j_TEnds_c_Counter => k_is); (case k_TEnds_c_Counter => k_is)))
        (case TEnds_c_End => (refine' Ru.clsAt_mk KX G ?a_TEnds_c_End ?b_TEnds_c_End ?c_TEnds_c_End ?d_TEnds_c_End ?e_TEnds_c_End ?f_TEnds_c_End ?g_TEnds_c_End ?h_TEnds_c_End ?i_TEnds_c_End ?j_TEnds_c_End ?k_TEnds_c_End; (case a_TEnds_c_End => k_is); (case b_TEnds_c_End => k_is); (case c_TEnds_c_End => k_is); (case d_TEnds_c_End => k_is); (case e_TEnds_c_End => k_is); (case f_TEnds_c_End => k_is); (case g_TEnds_c_End => k_is); (case h_TEnds_c_End => k_is); (case i_TEnds_c_End => k_is); (case j_TEnds_c_End => k_is); (case k_TEnds_c_End => k_is)))
        (case TEnds_nn_coil => (unfold L2.NoAttr; k_is))
        (case TEnds_nn_latch => (unfold L2.NoAttr; k_is))
        (case TEnds_nn_unlatch => (unfold L2.NoAttr; k_is))
        (case TEnds_nn_timer => (unfold L2.NoAttr; k_is))
        (case TEnds_nn_counter => (unfold L2.NoAttr; k_is))
        (case TEnds_nm_timer => (unfold L2.NoAttr; k_is))
        (case TEnds_nm_counter => (unfold L2.NoAttr; k_is))
        (case TEnds_m_ahead_coil => (refine' Ru.methAt_mk ?a_TEnds_m_ahead_coil ?i_TEnds_m_ahead_coil ?l_TEnds_m_ahead_coil ?c_TEnds_m_ahead_coil ?k_TEnds_m_ahead_coil ?b_TEnds_m_ahead_coil; (case a_TEnds_m_ahead_coil => k_is); (case i_TEnds_m_ahead_coil => k_is); (case l_TEnds_m_ahead_coil => k_is); (case c_TEnds_m_ahead_coil => k_is); (case k_TEnds_m_ahead_coil => k_is); (case b_TEnds_m_ahead_coil => exact fun us hl => match us, hl with | [_], _ => rfl)))
        (case TEnds_m_ahead_latch => (refine' Ru.methAt_mk ?a_TEnds_m_ahead_latch ?i_TEnds_m_ahead_latch ?l_TEnds_m_ahead_latch ?c_TEnds_m_ahead_latch ?k_TEnds_m_ahead_latch ?b_TEnds_m_ahead_latch; (case a_TEnds_m_ahead_latch => k_is); (case i_TEnds_m_ahead_latch => k_is); (case l_TEnds_m_ahead_latch => k_is); (case c_TEnds_m_ahead_latch => k_is); (case k_TEnds_m_ahead_latch => k_is); (case b_TEnds_m_ahead_latch => exact fun us hl => match us, hl with | [_], _ => rfl)))
        (case TEnds_m_ahead_unlatch => (refine' Ru.methAt_mk ?a_TEnds_m_ahead_unlatch ?i_TEnds_m_ahead_unlatch ?l_TEnds_m_ahead_unlatch ?c_TEnds_m_ahead_unlatch ?k_TEnds_m_ahead_unlatch ?b_TEnds_m_ahead_unlatch; (case a_TEnds_m_ahead_unlatch => k_is); (case i_TEnds_m_ahead_unlatch => k_is); (case l_TEnds_m_ahead_unlatch => k_is); (case c_TEnds_m_ahead_unlatch => k_is); (case k_TEnds_m_ahead_unlatch => k_is); (case b_TEnds_m_ahead_unlatch => exact fun us hl => match us, hl with | [_], _ => rfl)))
        (case TEnds_m_ahead_timer => (refine' Ru.methAt_mk ?a_TEnds_m_ahead_timer ?i_TEnds_m_ahead_timer ?l_TEnds_m_ahead_timer ?c_TEnds_m_ahead_timer ?k_TEnds_m_ahead_timer ?b_TEnds_m_ahead_timer; (case a_TEnds_m_ahead_timer => k_is); (case i_TEnds_m_ahead_timer => k_is); (case l_TEnds_m_ahead_timer => k_is); (case c_TEnds_m_ahead_timer => k_is); (case k_TEnds_m_ahead_timer => k_is); (case b_TEnds_m_ahead_timer => exact fun us hl => match us, hl with | [_], _ => rfl)))
        (case TEnds_m_ahead_counter => (refine' Ru.methAt_mk ?a_TEnds_m_ahead_counter ?i_TEnds_m_ahead_counter ?l_TEnds_m_ahead_counter ?c_TEnds_m_ahead_counter ?k_TEnds_m_ahead_counter ?b_TEnds_m_ahead_counter; (case a_TEnds_m_ahead_counter => k_is); (case i_TEnds_m_ahead_counter => k_is); (case l_TEnds_m_ahead_counter => k_is); (case c_TEnds_m_ahead_counter => k_is); (case k_TEnds_m_ahead_counter => k_is); (case b_TEnds_m_ahead_counter => exact fun us hl => match us, hl with | [_], _ => rfl)))
        (case TEnds_m_behind_coil => (refine' Ru.methAt_mk ?a_TEnds_m_behind_coil ?i_TEnds_m_behind_coil ?l_TEnds_m_behind_coil ?c_TEnds_m_behind_coil ?k_TEnds_m_behind_coil ?b_TEnds_m_behind_coil; (case a_TEnds_m_behind_coil => k_is); (case i_TEnds_m_behind_coil => k_is); (case l_TEnds_m_behind_coil => k_is); (case c_TEnds_m_behind_coil => k_is); (case k_TEnds_m_behind_coil => k_is); (case b_TEnds_m_behind_coil => exact fun us hl => match us, hl with | [_], _ => rfl)))
        (case TEnds_m_behind_latch => (refine' Ru.methAt_mk ?a_TEnds_m_behind_latch ?i_TEnds_m_behind_latch ?l_TEnds_m_behind_latch ?c_TEnds_m_behind_latch ?k_TEnds_m_behind_latch ?b_TEnds_m_behind_latch; (case a_TEnds_m_behind_latch => k_is); (case i_TEnds_m_behind_latch => k_is); (case l_TEnds_m_behind_latch => k_is); (case c_TEnds_m_behind_latch => k_is); (case k_TEnds_m_behind_latch => k_is); (case b_TEnds_m_behind_latch => exact fun us hl => match us, hl with | [_], _ => rfl)))
        (case TEnds_m_behind_unlatch => (refine' Ru.methAt_mk ?a_TEnds_m_behind_unlatch ?i_TEnds_m_behind_unlatch ?l_TEnds_m_behind_unlatch ?c_TEnds_m_behind_unlatch ?k_TEnds_m_behind_unlatch ?b_TEnds_m_behind_unlatch; (case a_TEnds_m_behind_unlatch => k_is); (case i_TEnds_m_behind_unlatch => k_is); (case l_TEnds_m_behind_unlatch => k_is); (case c_TEnds_m_behind_unlatch => k_is); (case k_TEnds_m_behind_unlatch => k_is); (case b_TEnds_m_behind_unlatch => exact fun us hl => match us, hl with | [_], _ => rfl)))
        (case TEnds_m_behind_timer => (refine' Ru.methAt_mk ?a_TEnds_m_behind_timer ?i_TEnds_m_behind_timer ?l_TEnds_m_behind_timer ?c_TEnds_m_behind_timer ?k_TEnds_m_behind_timer ?b_TEnds_m_behind_timer; (case a_TEnds_m_behind_timer => k_is); (case i_TEnds_m_behind_timer => k_is); (case l_TEnds_m_behind_timer => k_is); (case c_TEnds_m_behind_timer => k_is); (case k_TEnds_m_behind_timer => k_is); (case b_TEnds_m_behind_timer => exact fun us hl => match us, hl with | [_], _ => rfl)))
        (case TEnds_m_behind_counter => (refine' Ru.methAt_mk ?a_TEnds_m_behind_counter ?i_TEnds_m_behind_counter ?l_TEnds_m_behind_counter ?c_TEnds_m_behind_counter ?k_TEnds_m_behind_counter ?b_TEnds_m_behind_counter; (case a_TEnds_m_behind_counter => k_is); (case i_TEnds_m_behind_counter => k_is); (case l_TEnds_m_behind_counter => k_is); (case c_TEnds_m_behind_counter => k_is); (case k_TEnds_m_behind_counter => k_is); (case b_TEnds_m_behind_counter => exact fun us hl => match us, hl with | [_], _ => rfl)))
        (case TEnds_m_text_coil => (refine' Ru.methAt_mk ?a_TEnds_m_text_coil ?i_TEnds_m_text_coil ?l_TEnds_m_text_coil ?c_TEnds_m_text_coil ?k_TEnds_m_text_coil ?b_TEnds_m_text_coil; (case a_TEnds_m_text_coil => k_is); (case i_TEnds_m_text_coil => k_is); (case l_TEnds_m_text_coil => k_is); (case c_TEnds_m_text_coil => k_is); (case k_TEnds_m_text_coil => k_is); (case b_TEnds_m_text_coil => exact fun us hl => match us, hl with | [_], _ => rfl)))
        (case TEnds_m_text_latch => (refine' Ru.methAt_mk ?a_TEnds_m_text_latch ?i_TEnds_m_text_latch ?l_TEnds_m_text_latch ?c_TEnds_m_text_latch ?k_TEnds_m_text_latch ?b_TEnds_m_text_latch; (case a_TEnds_m_text_latch => k_is); (case i_TEnds_m_text_latch => k_is); (case l_TEnds_m_text_latch => k_is); (case c_TEnds_m_text_latch => k_is); (case k_TEnds_m_text_latch => k_is); (case b_TEnds_m_text_latch => exact fun us hl => match us, hl with | [_], _ => rfl)))
        (case TEnds_m_text_unlatch => (refine' Ru.methAt_mk ?a_TEnds_m_text_unlatch ?i_TEnds_m_text_unlatch ?l_TEnds_m_text_unlatch ?c_TEnds_m_text_unlatch ?k_TEnds_m_text_unlatch ?b_TEnds_m_text_unlatch; (case a_TEnds_m_text_unlatch => k_is); (case i_TEnds_m_text_unlatch => k_is); (case l_TEnds_m_text_unlatch => k_is); (case c_TEnds_m_text_unlatch => k_is); (case k_TEnds_m_text_unlatch => k_is); (case b_TEnds_m_text_unlatch => exact fun us hl => match us, hl with | [_], _ => rfl)))
        (case TEnds_m_text_timer => (refine' Ru.methAt_mk ?a_TEnds_m_text_timer ?i_TEnds_m_text_timer ?l_TEnds_m_text_timer ?c_TEnds_m_text_timer ?k_TEnds_m_text_timer ?b_TEnds_m_text_timer; (case a_TEnds_m_text_timer => k_is); (case i_TEnds_m_text_timer => k_is); (case l_TEnds_m_text_timer => k_is); (case c_TEnds_m_text_timer => k_is); (case k_TEnds_m_text_timer => k_is); (case b_TEnds_m_text_timer => exact fun us hl => match us, hl with | [_], _ => rfl)))
        (case TEnds_m_text_counter => (refine' Ru.methAt_mk ?a_TEnds_m_text_counter ?i_TEnds_m_text_counter ?l_TEnds_m_text_counter ?c_TEnds_m_text_counter ?k_TEnds_m_text_counter ?b_TEnds_m_text_counter; (case a_TEnds_m_text_counter => k_is); (case i_TEnds_m_text_counter => k_is); (case l_TEnds_m_text_counter => k_is); (case c_TEnds_m_text_counter => k_is); (case k_TEnds_m_text_counter => k_is); (case b_TEnds_m_text_counter => exact fun us hl => match us, hl with | [_], _ => rfl)))
        (case TEnds_m_init_coil => (refine' Ru.methAt_mk ?a_TEnds_m_init_coil ?i_TEnds_m_init_coil ?l_TEnds_m_init_coil ?c_TEnds_m_init_coil ?k_TEnds_m_init_coil ?b_TEnds_m_init_coil; (case a_TEnds_m_init_coil => k_is); (case i_TEnds_m_init_coil => k_is); (case l_TEnds_m_init_coil => k_is); (case c_TEnds_m_init_coil => k_is); (case k_TEnds_m_init_coil => k_is); (case b_TEnds_m_init_coil => exact fun us hl => match us, hl with | [_, _], _ => rfl)))
        (case TEnds_m_init_latch => (refine' Ru.methAt_mk ?a_TEnds_m_init_latch ?i_TEnds_m_init_latch ?l_TEnds_m_init_latch ?c_TEnds_m_init_latch ?k_TEnds_m_init_latch ?b_TEnds_m_init_latch; (case a_TEnds_m_init_latch => k_is); (case i_TEnds_m_init_latch => k_is); (case l_TEnds_m_init_latch => k_is); (case c_TEnds_m_init_latch => k_is); (case k_TEnds_m_init_latch => k_is); (case b_TEnds_m_init_latch => exact fun us hl => match us, hl with | [_, _], _ => rfl)))
        (case TEnds_m_init_unlatch => (refine' Ru.methAt_mk ?a_TEnds_m_init_unlatch ?i_TEnds_m_init_unlatch ?l_TEnds_m_init_unlatch ?c_TEnds_m_init_unlatch ?k_TEnds_m_init_unlatch ?b_TEnds_m_init_unlatch; (case a_TEnds_m_init_unlatch => k_is); (case i_TEnds_m_init_unlatch => k_is); (case l_TEnds_m_init_unlatch => k_is); (case c_TEnds_m_init_unlatch => k_is); (case k_TEnds_m_init_unlatch => k_is); (case b_TEnds_m_init_unlatch => exact fun us hl => match us, hl with | [_, _], _ => rfl)))
        (case TEnds_m_init_timer => (refine' Ru.methAt_mk ?a_TEnds_m_init_timer ?i_TEnds_m_init_timer ?l_TEnds_m_init_timer ?c_TEnds_m_init_timer ?k_TEnds_m_init_timer ?b_TEnds_m_init_timer; (case a_TEnds_m_init_timer => k_is); (case i_TEnds_m_init_timer => k_is); (case l_TEnds_m_init_timer => k_is); (case c_TEnds_m_init_timer => k_is); (case k_TEnds_m_init_timer => k_is); (case b_TEnds_m_init_timer => exact fun us hl => match us, hl with | [_, _, _], _ => rfl)))
        (case TEnds_m_init_counter => (refine' Ru.methAt_mk ?a_TEnds_m_init_counter ?i_TEnds_m_init_counter ?l_TEnds_m_init_counter ?c_TEnds_m_init_counter ?k_TEnds_m_init_counter ?b_TEnds_m_init_counter; (case a_TEnds_m_init_counter => k_is); (case i_TEnds_m_init_counter => k_is); (case l_TEnds_m_init_counter => k_is); (case c_TEnds_m_init_counter => k_is); (case k_TEnds_m_init_counter => k_is); (case b_TEnds_m_init_counter => exact fun us hl => match us, hl with | [_, _, _], _ => rfl)))
        (case TEnds_f_init => (refine' Ru.clsFnAt_mk ?r_TEnds_f_init ?g_TEnds_f_init ?a_TEnds_f_init ?l_TEnds_f_init ?c_TEnds_f_init ?k_TEnds_f_init ?b_TEnds_f_init; (case r_TEnds_f_init => k_is); (case g_TEnds_f_init => k_is); (case a_TEnds_f_init => k_is); (case l_TEnds_f_init => k_is); (case c_TEnds_f_init => k_is); (case k_TEnds_f_init => k_is); (case b_TEnds_f_init => exact fun us hl => match us, hl with | [_, _], _ => rfl)))
        (case TEnds_nde => decide)
        (case TEnds_z_isinstance => (exact PySem.W.mg_none_of KX G (by k_is)))
        (case TEnds_z_int => (exact PySem.W.mg_none_of KX G (by k_is)))
        (case TEnds_z_bool => (exact PySem.W.mg_none_of KX G (by k_is)))
        (case TEnds_z_str => (exact PySem.W.mg_none_of KX G (by k_is)))
        (case TEnds_g_MOST_COUNT => (refine' Ru.globC_mk KX G ?a_TEnds_g_MOST_COUNT ?r_TEnds_g_MOST_COUNT; (case a_TEnds_g_MOST_COUNT => k_is); (case r_TEnds_g_MOST_COUNT => exact ⟨_, rfl⟩)))
      refine' My.split_TEnK ?p_TEnK (fun s_TEnK => ?t_TEnK)
      case p_TEnK =>
        refine' ⟨s_TEnds, ?TEnK_o_coil_coil, ?TEnK_o_coil_latch, ?TEnK_o_coil_unlatch, ?TEnK_o_coil_timer, ?TEnK_o_coil_counter, ?TEnK_o_latch_coil, ?TEnK_o_latch_latch, ?TEnK_o_latch_unlatch, ?TEnK_o_latch_timer, ?TEnK_o_latch_counter, ?TEnK_o_unlatch_coil, ?TEnK_o_unlatch_latch, ?TEnK_o_unlatch_unlatch, ?TEnK_o_unlatch_timer, ?TEnK_o_unlatch_counter, ?TEnK_o_timer_coil, ?TEnK_o_timer_latch, ?TEnK_o_timer_unlatch, ?TEnK_o_timer_timer, ?TEnK_o_timer_counter, ?TEnK_o_counter_coil, ?TEnK_o_counter_latch, ?TEnK_o_counter_unlatch, ?TEnK_o_counter_timer, ?TEnK_o_counter_counter, ?TEnK_o_coil_en, ?TEnK_o_latch_en, ?TEnK_o_unlatch_en, ?TEnK_o_timer_en, ?TEnK_o_counter_en⟩
        (case TEnK_o_coil_coil => (try dsimp only; kit_is))
        (case TEnK_o_coil_latch => (try dsimp only; kit_is))
        (case TEnK_o_coil_unlatch => (try dsimp only; kit_is))
        (case TEnK_o_coil_timer => (try dsimp only; kit_is))
        (case TEnK_o_coil_counter => (try dsimp only; kit_is))
        (case TEnK_o_latch_coil => (try dsimp only; kit_is))
        (case TEnK_o_latch_latch => (try dsimp only; kit_is))
        (case TEnK_o_latch_unlatch => (try dsimp only; kit_is))
        (case TEnK_o_latch_timer => (try dsimp only; kit_is))
        (case TEnK_o_latch_counter => (try dsimp only; kit_is))
        (case TEnK_o_unlatch_coil => (try dsimp only; kit_is))
        (case TEnK_o_unlatch_latch => (try dsimp only; kit_is))
        (case TEnK_o_unlatch_unlatch => (try dsimp only; kit_is))
        (case TEnK_o_unlatch_timer => (try dsimp only; kit_is))
        (case TEnK_o_unlatch_counter => (try dsimp only; kit_is))
        (case TEnK_o_timer_coil => (try dsimp only; kit_is))
        (case TEnK_o_timer_latch => (try dsimp only; kit_is))
        (case TEnK_o_timer_unlatch => (try dsimp only; kit_is))
        (case TEnK_o_timer_timer => (try dsimp only; kit_is))
        (case TEnK_o_timer_counter => (try dsimp only; kit_is))
        (case TEnK_o_counter_coil => (try dsimp only; kit_is))
        (case TEnK_o_counter_latch => (try dsimp only; kit_is))
        (case TEnK_o_counter_unlatch => (try dsimp only; kit_is))
        (case TEnK_o_counter_timer => (try dsimp only; kit_is))
        (case TEnK_o_counter_counter => (try dsimp only; kit_is))
        (case TEnK_o_coil_en => (try dsimp only; kit_is))
        (case TEnK_o_latch_en => (try dsimp only; kit_is))
        (case TEnK_o_unlatch_en => (try dsimp only; kit_is))
        (case TEnK_o_timer_en => (try dsimp only; kit_is))
        (case TEnK_o_counter_en => (try dsimp only; kit_is))
      refine' My.split_TOwn ?p_TOwn (fun s_TOwn => ?t_TOwn)
      case p_TOwn =>
        refine' ⟨s_TKind2, s_TEnK, ?TOwn_d_far, ?TOwn_d_made, ?TOwn_d_refused, ?TOwn_d_class, ?TOwn_d_right, ?TOwn_z_len⟩
        (case TOwn_d_far => (refine' Ru.defAt_mk KX G ?a_TOwn_d_far ?l_TOwn_d_far ?c_TOwn_d_far ?k_TOwn_d_far ?b_TOwn_d_far; (case a_TOwn_d_far => k_is); (case l_TOwn_d_far => k_is); (case c_TOwn_d_far => k_is); (case k_TOwn_d_far => k_is); (case b_TOwn_d_far => exact fun us hl => match us, hl with | [_, _], _ => rfl)))
        (case TOwn_d_made => (refine' Ru.defAt_mk KX G ?a_TOwn_d_made ?l_TOwn_d_made ?c_TOwn_d_made ?k_TOwn_d_made ?b_TOwn_d_made; (case a_TOwn_d_made => k_is); (case l_TOwn_d_made => k_is); (case c_TOwn_d_made => k_is); (case k_TOwn_d_made => k_is); (case b_TOwn_d_made => exact fun us hl => match us, hl with | [_, _, _], _ => rfl)))
        (case TOwn_d_refused => (refine' Ru.defAt_mk KX G ?a_TOwn_d_refused ?l_TOwn_d_refused ?c_TOwn_d_refused ?k_TOwn_d_refused ?b_TOwn_d_refused; (case a_TOwn_d_refused => k_is); (case l_TOwn_d_refused => k_is); (case c_TOwn_d_refused => k_is); (case k_TOwn_d_refused => k_is); (case b_TOwn_d_refused => exact fun us hl => match us, hl with | [_, _, _], _ => rfl)))
        (case TOwn_d_class => (refine' Ru.defAt_mk KX G ?a_TOwn_d_class ?l_TOwn_d_class ?c_TOwn_d_class ?k_TOwn_d_class ?b_TOwn_d_class; (case a_TOwn_d_class => k_is); (case l_TOwn_d_class => k_is); (case c_TOwn_d_class => k_is); (case k_TOwn_d_class => k_is); (case b_TOwn_d_class => exact fun us hl => match us, hl with | [_], _ => rfl)))
        (case TOwn_d_right => (refine' Ru.defAt_mk KX G ?a_TOwn_d_right ?l_TOwn_d_right ?c_TOwn_d_right ?k_TOwn_d_right ?b_TOwn_d_right; (case a_TOwn_d_right => k_is); (case l_TOwn_d_right => k_is); (case c_TOwn_d_right => k_is); (case k_TOwn_d_right => k_is); (case b_TOwn_d_right => exact fun us hl => match us, hl with | [_, _, _, _, _], _ => rfl)))
        (case TOwn_z_len => (exact PySem.W.mg_none_of KX G (by k_is)))
      refine' My.split_TCells ?p_TCells (fun s_TCells => ?t_TCells)
      case p_TCells =>
        refine' ⟨?TCells_d_cell_at, ?TCells_d_mixed, ?TCells_z_len⟩
        (case TCells_d_cell_at => (refine' Ru.defAt_mk KX G ?a_TCells_d_cell_at ?l_TCells_d_cell_at ?c_TCells_d_cell_at ?k_TCells_d_cell_at ?b_TCells_d_cell_at; (case a_TCells_d_cell_at => k_is); (case l_TCells_d_cell_at => k_is); (case c_TCells_d_cell_at => k_is); (case k_TCells_d_cell_at => k_is); (case b_TCells_d_cell_at => exact fun us hl => match us, hl with | [_, _], _ => rfl)))
        (case TCells_d_mixed => (refine' Ru.defAt_mk KX G ?a_TCells_d_mixed ?l_TCells_d_mixed ?c_TCells_d_mixed ?k_TCells_d_mixed ?b_TCells_d_mixed; (case a_TCells_d_mixed => k_is); (case l_TCells_d_mixed => k_is); (case c_TCells_d_mixed => k_is); (case k_TCells_d_mixed => k_is); (case b_TCells_d_mixed => exact fun us hl => match us, hl with | [_, _], _ => rfl)))
        (case TCells_z_len => (exact PySem.W.mg_none_of KX G (by k_is)))
      refine' My.split_TNames2 ?p_TNames2 (fun s_TNames2 => ?t_TNames2)
      case p_TNames2 =>
        refine' ⟨s_TCells, ?TNames2_d_names, ?TNames2_z_range, ?TNames2_z_int⟩
        (case TNames2_d_names => (refine' Ru.defAt_mk KX G ?a_TNames2_d_names ?l_TNames2_d_names ?c_TNames2_d_names ?k_TNames2_d_names ?b_TNames2_d_names; (case a_TNames2_d_names => k_is); (case l_TNames2_d_names => k_is); (case c_TNames2_d_names => k_is); (case k_TNames2_d_names => k_is); (case b_TNames2_d_names => exact fun us hl => match us, hl with | [_, _], _ => rfl)))
        (case TNames2_z_range => (exact PySem.W.mg_none_of KX G (by k_is)))
        (case TNames2_z_int => (exact PySem.W.mg_none_of KX G (by k_is)))
      refine' ⟨s_TOwn, s_TNames2, ?Txt_law⟩
      (case Txt_law => (refine' Ru.lawAt_mk KX G ?a_Txt_law ?l_Txt_law ?c_Txt_law ?k_Txt_law ?b_Txt_law; (case a_Txt_law => k_is); (case l_Txt_law => k_is); (case c_Txt_law => k_is); (case k_Txt_law => k_is); (case b_Txt_law => exact fun _ => rfl)))
#print axioms PySem.Challenge.cw_rungworks_k11_ends_holds
