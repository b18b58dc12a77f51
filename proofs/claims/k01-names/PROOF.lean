import PyProof.Rows.All
import Wide.All
import OpenK.AllK
import Wide.FinOn
import HandS.ForMost
import HandS.Codes
import HandS.Style
import HandS.IsInst
import PySem.Challenge.RW_rungworks_k01_names
set_option Elab.async false
set_option linter.all false
set_option maxRecDepth 100000
set_option maxHeartbeats 2000000
namespace Ru
open PySem PySem.Spec PyProof.Rows L2

/-! ## a def of the module as a caller sees it -/
/-- the def called x is the module's, with body st -/
structure DefAt (K : PySem.W.Frag) (mg : Str → Option Value) (x : Str) (st : Stmt) (ps : List Str) : Prop where
  ex : ∃ f fd, mg x = some (.ref f) ∧ Fun K x x st f fd ∧ Binds K fd ps []
/-- the def called x keeps the promise sp -/
structure FnAt (P : Program) (w : World) (K : PySem.W.Frag) (mg : Str → Option Value) (base : Heap) (cx : CXT) (x : Str) (k : Nat) (ps : List Str) (sp : Sp) : Prop where
  ex : ∃ f fd, mg x = some (.ref f) ∧ PySem.W.keepIn K (.ref f) = true ∧ Binds K fd ps [] ∧ FnOk P w K mg base cx k f fd ps sp
theorem FnAt.mono {P : Program} {w : World} {K : PySem.W.Frag} {mg : Str → Option Value} {base : Heap} {cx : CXT} {x : Str} {j k : Nat} {ps : List Str} {sp : Sp} (F : FnAt P w K mg base cx x j ps sp) (h : j ≤ k) : FnAt P w K mg base cx x k ps sp := by
  obtain ⟨f, fd, h1, h2, h3, h4⟩ := F.ex
  exact ⟨f, fd, h1, h2, h3, h4.mono h⟩
theorem FnAt.imp {P : Program} {w : World} {K : PySem.W.Frag} {mg : Str → Option Value} {base : Heap} {cx : CXT} {x : Str} {k : Nat} {ps : List Str} {sp sp' : Sp} (F : FnAt P w K mg base cx x k ps sp) (h : ∀ vs H Q E, sp' vs H Q E → sp vs H Q E) : FnAt P w K mg base cx x k ps sp' := by
  obtain ⟨f, fd, h1, h2, h3, h4⟩ := F.ex
  exact ⟨f, fd, h1, h2, h3, h4.imp h⟩
section
variable {P : Program} {w : World} {K : PySem.W.Frag} {mg : Str → Option Value} {base : Heap}
theorem fnAt_ok {x : Str} {st : Stmt} {N ps : List Str} {k : Nat} {sp : Sp} (D : DefAt K mg x st ps) (S : FnScope N ps (defScope st)) (len : ∀ vs H Q E, sp vs H Q E → vs.length = ps.length)
    (hbody : ∀ (f : Addr) (cdv : Value) (A : Around) (outer : List Env) (s : Shared) (H : Hp) (vs : List V) (Q : VK) (E : XK), Room k (A.deeper (envOfC x (defScope st) s.heap.objs.size f cdv)) → sp vs H Q E →
      ∃ t, PSs (cxOf CX0 P w K mg base N x (defScope st) f cdv A outer s H E).nox (defBody st) t ∧ t { nx := fun _ H' => Q .non H', rt := Q } (start N vs) H) : FnAt P w K mg base CX0 x (k + 1) ps sp := by
  obtain ⟨f, fd, h1, h2, h3⟩ := D.ex
  exact ⟨f, fd, h1, h2.kp, h3, h2.ok S len (hbody f)⟩
theorem defAt_mk {h : Heap} {x : Str} {st : Stmt} {ps : List Str} {f : Addr} {oc : Value} {od an : Option Addr} {osl : Array (Option Value)} {kV doc pm cdv ct : Value} (X : K.In h) (G : h.Ns mainGlobals mg)
    (a : PySem.W.nsIn K mainGlobals x = some (some (.ref f))) (l : K.lookup f = some ⟨oc, od, .func (PySem.W.fnOf x x (defArgs st) (defBody st) (defScope st) .none kV doc pm an cdv ct), osl⟩)
    (c : PySem.W.codeIn K cdv x = true) (k : PySem.W.keepIn K (.ref f) = true)
    (b : ∀ us : List Value, us.length = ps.length → bindArgs (PySem.W.fnOf x x (defArgs st) (defBody st) (defScope st) .none kV doc pm an cdv ct) ⟨us, []⟩ = pure (ps.zip us)) : DefAt K mg x st ps :=
  ⟨f, _, PySem.W.mg_of X G a, fun_mk l c k, .all b⟩
end
section
variable {X : Cx} {cx : CXT} {j k : Nat} {ps : List Str} {sp : Sp} {E : XK} {x : Str} {p pos : Pos} {e : Expr} {es : List Expr} {t : TA}
theorem pe_callF (F : FnAt X.prog X.w X.K X.mg X.base cx x k ps sp) (hr : Room j X.A) (hx : Passes cx X E) (ha : PA X (e :: es) t) (hj : k ≤ j := by decide) (hg : Gl X x := by rfl)
    (hdb : (x == ("__debug__" : Str)) = false := by decide) (he : starEach (e :: es) X.env = (false, eval e X.env) :: starEach es X.env := by rfl) (hpl : (backTo pos (starEach es X.env)).any (·.1) = false := by rfl) :
    PE X (.Call (.Name x p) (e :: es) [] pos) (tCall sp [] E t) := by
  obtain ⟨f, fd, h1, h2, h3, h4⟩ := F.ex
  exact pe_call h4 (hr.mono hj) hg h1 h2 h3 .nil hx ha hdb he hpl
theorem pe_callF0 (F : FnAt X.prog X.w X.K X.mg X.base cx x k ps sp) (hr : Room j X.A) (hx : Passes cx X E) (hj : k ≤ j := by decide) (hg : Gl X x := by rfl)
    (hdb : (x == ("__debug__" : Str)) = false := by decide) : PE X (.Call (.Name x p) [] [] pos) (tCall sp [] E tNil) := by
  obtain ⟨f, fd, h1, h2, h3, h4⟩ := F.ex
  exact pe_call0 h4 (hr.mono hj) hg h1 h2 h3 .nil hx hdb
end

/-! ## constants of the module -/
/-- the module's name x holds the value v -/
def GlobC (mg : Str → Option Value) (x : Str) (v : V) : Prop := ∃ u, mg x = some u ∧ RelV v u
theorem pe_gc {X : Cx} {x : Str} {v : V} {pos : Pos} (h : GlobC X.mg x v) (hg : Gl X x := by rfl) (hd : (x == ("__debug__" : Str)) = false := by decide) : PE X (.Name x pos) (tC v) := by
  obtain ⟨u, h1, h2⟩ := h
  exact pe_glob hg h1 h2 hd
/-- a tuple that stands wherever one looks -/
def TupK (K : PySem.W.Frag) (a : Addr) (xs : List V) : Prop := ∀ H, SqT K H a xs
def GlobT (K : PySem.W.Frag) (mg : Str → Option Value) (x : Str) (xs : List V) : Prop := ∃ a, mg x = some (.ref a) ∧ TupK K a xs
def tGT (K : PySem.W.Frag) (xs : List V) : TE := fun _ H Q => ∀ a, TupK K a xs → Q (.ref a) H
theorem pe_gt {X : Cx} {x : Str} {xs : List V} {pos : Pos} (h : GlobT X.K X.mg x xs) (hg : Gl X x := by rfl) (hd : (x == ("__debug__" : Str)) = false := by decide) : PE X (.Name x pos) (tGT X.K xs) := by
  obtain ⟨a, h1, h2⟩ := h
  exact ⟨fun pins s σ H Q I q => (pe_glob (v := .ref a) hg h1 rfl hd).run pins s σ H Q I (q a h2)⟩
/-- what a written tuple's items are -/
def valsB : List V → List Value → Bool
  | [], [] => true
  | x :: xs, u :: us => (absV u == some x) && valsB xs us
  | _, _ => false
theorem relV_of_abs {x : V} {u : Value} (h : absV u = some x) : RelV x u := by
  cases u <;> simp [absV] at h <;> subst h <;> first | rfl | exact ⟨_, rfl⟩
theorem vals_of_B : ∀ {xs : List V} {us : List Value}, valsB xs us = true → Vals xs us
  | [], [], _ => .nil
  | x :: xs, u :: us, h => by
    unfold valsB at h
    rw [Bool.and_eq_true] at h
    exact .cons (relV_of_abs (by simpa using h.1)) (vals_of_B h.2)
  | [], _ :: _, h => by simp [valsB] at h
  | _ :: _, [], h => by simp [valsB] at h
theorem globT_mk {K : PySem.W.Frag} {mg : Str → Option Value} {h : Heap} {x : Str} {a : Addr} {n : Nat} {its : Array Value} {od : Option Addr} {sl : Array (Option Value)} {xs : List V} (X : K.In h) (G : h.Ns mainGlobals mg)
    (ha : PySem.W.nsIn K mainGlobals x = some (some (.ref a))) (l : K.lookup a = some ⟨.type "tuple", od, .seq its n, sl⟩) (hs : its.size ≤ sizeLine) (hv : Vals xs its.toList) : GlobT K mg x xs :=
  ⟨a, PySem.W.mg_of X G ha, fun _ => .inr ⟨_, its, n, l, rfl, rfl, hs, hv⟩⟩
theorem globC_mk {K : PySem.W.Frag} {mg : Str → Option Value} {h : Heap} {x : Str} {u : Value} {v : V} (X : K.In h) (G : h.Ns mainGlobals mg) (ha : PySem.W.nsIn K mainGlobals x = some (some u)) (r : RelV v u) : GlobC mg x v :=
  ⟨u, PySem.W.mg_of X G ha, r⟩

theorem pc_inK {X : Cx} {x : Str} {xs : List V} {a : Expr} {ta : TE} {pos : Pos} (h : GlobT X.K X.mg x xs) (ha : PE X a ta) (hg : Gl X x := by rfl) (hd : (x == ("__debug__" : Str)) = false := by decide) :
    PC X .In a (.Name x pos) (fun σ H Q => ta σ H fun v H1 => flatV v = true ∧ xs.all flatV = true ∧ Q (.bl (inV v xs)) H1) := by
  obtain ⟨b, h1, h2⟩ := h
  refine ⟨fun pins s σ H Q I q => ?_⟩
  refine bin (R := fun v u H2 => u = .ref b ∧ flatV v = true ∧ xs.all flatV = true ∧ Q (.bl (inV v xs)) H2) ha (pe_glob (v := .ref b) hg h1 rfl hd) I ?_ fun v u s2 x y H2 I2 rx ry q => ?_
  · refine (show ta σ H fun v H1 => (V.ref b = .ref b ∧ flatV v = true ∧ xs.all flatV = true ∧ Q (.bl (inV v xs)) H1) from ?_)
    have : (fun v H1 => flatV v = true ∧ xs.all flatV = true ∧ Q (.bl (inV v xs)) H1) = (fun (v : V) (H1 : Hp) => (V.ref b = .ref b ∧ flatV v = true ∧ xs.all flatV = true ∧ Q (.bl (inV v xs)) H1)) := by
      funext v H1
      simp
    rw [← this]
    exact q
  · obtain ⟨rfl, q1, q2, q3⟩ := q
    exact op_in_seq pins s2 σ H2 _ _ _ _ Q I2 rx ry ⟨b, xs, rfl, .inr (h2 H2), q1, q2, q3⟩
theorem pc_notInK {X : Cx} {x : Str} {xs : List V} {a : Expr} {ta : TE} {pos : Pos} (h : GlobT X.K X.mg x xs) (ha : PE X a ta) (hg : Gl X x := by rfl) (hd : (x == ("__debug__" : Str)) = false := by decide) :
    PC X .NotIn a (.Name x pos) (fun σ H Q => ta σ H fun v H1 => flatV v = true ∧ xs.all flatV = true ∧ Q (.bl (!inV v xs)) H1) := by
  obtain ⟨b, h1, h2⟩ := h
  refine ⟨fun pins s σ H Q I q => ?_⟩
  refine bin (R := fun v u H2 => u = .ref b ∧ flatV v = true ∧ xs.all flatV = true ∧ Q (.bl (!inV v xs)) H2) ha (pe_glob (v := .ref b) hg h1 rfl hd) I ?_ fun v u s2 x y H2 I2 rx ry q => ?_
  · refine (show ta σ H fun v H1 => (V.ref b = .ref b ∧ flatV v = true ∧ xs.all flatV = true ∧ Q (.bl (!inV v xs)) H1) from ?_)
    have : (fun v H1 => flatV v = true ∧ xs.all flatV = true ∧ Q (.bl (!inV v xs)) H1) = (fun (v : V) (H1 : Hp) => (V.ref b = .ref b ∧ flatV v = true ∧ xs.all flatV = true ∧ Q (.bl (!inV v xs)) H1)) := by
      funext v H1
      simp
    rw [← this]
    exact q
  · obtain ⟨rfl, q1, q2, q3⟩ := q
    exact op_notIn_seq pins s2 σ H2 _ _ _ _ Q I2 rx ry ⟨b, xs, rfl, .inr (h2 H2), q1, q2, q3⟩

/-! ## texts as lists of code points -/
def mkS (l : List Nat) : Str := ⟨l.toArray⟩
theorem mkS_len (l : List Nat) : (mkS l).length = l.length := by simp [mkS, Str.length]
theorem mkS_tl (z : Str) : mkS z.cps.toList = z := by simp [mkS]
theorem tl_mkS (l : List Nat) : (mkS l).cps.toList = l := by simp [mkS]
theorem mkS_inj {a b : List Nat} (h : mkS a = mkS b) : a = b := by rw [← tl_mkS a, ← tl_mkS b, h]
theorem mkS_app (a b : List Nat) : mkS a ++ mkS b = mkS (a ++ b) := by
  show Str.append _ _ = _
  simp [Str.append, mkS]
theorem empty_mk : ("" : Str) = mkS [] := by decide +kernel
theorem mkS_one (c : Nat) : (⟨#[c]⟩ : Str) = mkS [c] := rfl
theorem cutS_to (l : List Nat) (n : Nat) : cutS (mkS l) none (some (n : Int)) = mkS (l.take n) := by
  unfold cutS
  rw [HT.sIx_none, HT.sIx_nat, mkS_len, tl_mkS]
  show mkS _ = _
  congr 1
  rw [List.drop_zero, Nat.sub_zero]
  by_cases h : n ≤ l.length
  · rw [Nat.min_eq_left h]
  · rw [Nat.min_eq_right (by omega), List.take_of_length_le (Nat.le_refl _), List.take_of_length_le (by omega)]
theorem cutS_from (l : List Nat) (n : Nat) : cutS (mkS l) (some (n : Int)) none = mkS (l.drop n) := by
  unfold cutS
  rw [HT.sIx_none, HT.sIx_nat, mkS_len, tl_mkS]
  show mkS _ = _
  congr 1
  by_cases h : n ≤ l.length
  · rw [Nat.min_eq_left h, List.take_of_length_le (by rw [List.length_drop]; omega)]
  · rw [Nat.min_eq_right (by omega), List.drop_of_length_le (Nat.le_refl _), List.drop_of_length_le (by omega)]
    simp
theorem cutS_le (z : Str) (lo hi : Option Int) : (cutS z lo hi).length ≤ z.length := by
  unfold cutS Str.length
  simp only [List.size_toArray, List.length_take, List.length_drop, Array.length_toList]
  omega
theorem len_app (x y : Str) : (x ++ y).length = x.length + y.length := strLen_append x y
/-- the item at an int's place -/
theorem atI_int {α : Type} {xs : List α} {i : Int} {v : α} (h0 : 0 ≤ i) (h : xs[i.toNat]? = some v) : atI xs i = some v := by
  obtain ⟨n, rfl⟩ := Int.eq_ofNat_of_zero_le h0
  exact atI_nat h

theorem atI_ex {α : Type} {xs : List α} {i : Int} (h0 : 0 ≤ i) (h : i < xs.length) : ∃ v, v ∈ xs ∧ atI xs i = some v := by
  have hn : i.toNat < xs.length := by omega
  exact ⟨xs[i.toNat], List.getElem_mem hn, atI_int h0 (List.getElem?_eq_getElem hn)⟩
theorem line_ge {n : Nat} (h : n ≤ 1000000) : n ≤ sizeLine := by rw [sizeLine_eq]; omega
/-- the law's def, and how its one argument binds -/
structure LawAt (K : PySem.W.Frag) (mg : Str → Option Value) (st : Stmt) (p : Str) : Prop where
  ex : ∃ f fd, mg "law" = some (.ref f) ∧ Fun K "law" "law" st f fd ∧ ∀ u : Value, bindArgs fd ⟨[u], []⟩ = pure [(p, u)]
theorem lawAt_mk {K : PySem.W.Frag} {mg : Str → Option Value} {h : Heap} {st : Stmt} {p : Str} {f : Addr} {oc : Value} {od an : Option Addr} {osl : Array (Option Value)} {kV doc pm cdv ct : Value} (X : K.In h) (G : h.Ns mainGlobals mg)
    (a : PySem.W.nsIn K mainGlobals "law" = some (some (.ref f))) (l : K.lookup f = some ⟨oc, od, .func (PySem.W.fnOf "law" "law" (defArgs st) (defBody st) (defScope st) .none kV doc pm an cdv ct), osl⟩)
    (c : PySem.W.codeIn K cdv "law" = true) (k : PySem.W.keepIn K (.ref f) = true)
    (b : ∀ u : Value, bindArgs (PySem.W.fnOf "law" "law" (defArgs st) (defBody st) (defScope st) .none kV doc pm an cdv ct) ⟨[u], []⟩ = pure [(p, u)]) : LawAt K mg st p :=
  ⟨f, _, PySem.W.mg_of X G a, fun_mk l c k, b⟩
theorem law_end {prog : Program} {w : World} {K : PySem.W.Frag} {mg : Str → Option Value} {st : Stmt} {p : Str} {fa : Addr} {cx : CXT} {k : Nat} {sp : Sp} (L : LawAt K mg st p) (hfa : mg "law" = some (.ref fa))
    (ok : ∀ (base : Heap) (f : Addr) (fd : FuncData), Fun K "law" "law" st f fd → FnOk prog w K mg base cx k f fd [p] sp) :
    ∃ fd : FuncData, (∀ (s : Shared) (u : Value), BindsTo s fd ⟨[u], []⟩ [(p, u)]) ∧ ∀ base : Heap, K.In base → base.Ns mainGlobals mg → FnOk prog w K mg base cx k fa fd [p] sp := by
  obtain ⟨f, fd, h1, h2, h3⟩ := L.ex
  have e : f = fa := by
    have := h1.symm.trans hfa
    injection this with e
    injection e
  subst e
  exact ⟨fd, fun s u => .of_eq (h3 u), fun base _ _ => ok base f fd h2⟩
/-- what is promised of a law: True, whatever stands -/
def spLaw (K : PySem.W.Frag) : Sp := fun vs H Q _ => ∃ (a : Addr) (ns : List Int), vs = [.ref a] ∧ SqL K H a (ns.map V.int) ∧ ns.length ≤ 63 ∧ ∀ H', Q (.bl true) H'
theorem law_walk {l : PySem.W.OpenLaw} {q : Program} {loose : List Str} {XP : (Str → Option Value) → Heap → Prop} {YP : World → Heap → Prop} {d : DefRec} {K : Params → PySem.W.Frag} {cx : CXT} {k : Nat} {p : Str} (hr : Room k callerA) (hn : l.most = some 63) (hdf : d.params.defaults = [])
    (hY : ∀ (w : World) (h : Heap), YP w h → (K w.params).In h) (hcx : ∀ (H : Hp) (s : Shared) (e : Value) (s' : Shared), cx [] H s (fun _ _ _ => False) e s' → False)
    (F : ∀ (w : World) (mg : Str → Option Value) (fa : Addr) (h : Heap), (K w.params).In h → h.Ns mainGlobals mg → mg d.name = some (.ref fa) →
      ∃ fd : FuncData, (∀ (s : Shared) (u : Value), BindsTo s fd ⟨[u], []⟩ [(p, u)]) ∧ ∀ base : Heap, (K w.params).In base → base.Ns mainGlobals mg → FnOk l.prog w (K w.params) mg base cx k fa fd [p] (spLaw (K w.params))) :
    PySem.W.WalkO q loose XP YP l.row.toRowW d [] (fun f vs => PySem.call f vs) :=
  L2.walk_of (n := 63) (k := k) (x := p) (CX := fun _ => cx) (sp := fun w => spLaw (K w.params)) hn (by decide) hdf hr hY F (fun _ _ a ns hl _ hS => ⟨a, ns, rfl, hS, hl, fun _ => rfl⟩) fun _ H s e s' z => hcx H s e s' z

/-! ## isinstance of flat values and bool, int, str -/
def isBlV : V → Bool
  | .bl _ => true
  | _ => false
def isIntV : V → Bool
  | .bl _ => true
  | .int _ => true
  | _ => false
def isStrV : V → Bool
  | .str _ => true
  | _ => false
theorem scal_ii {a b : Int} : scal (.int a) (.int b) = true := rfl
theorem scal_bb {a b : Bool} : scal (.bl a) (.bl b) = true := rfl
theorem scal_ss {a b : Str} : scal (.str a) (.str b) = true := rfl
theorem scal_sb {a : Str} {b : Bool} : scal (.str a) (.bl b) = true := rfl
theorem scal_bs {a : Str} {b : Bool} : scal (.bl b) (.str a) = true := rfl
theorem flat_s {z : Str} : flatV (.str z) = true := rfl
theorem flat_i {z : Int} : flatV (.int z) = true := rfl
theorem flat_b {z : Bool} : flatV (.bl z) = true := rfl
theorem flat_n : flatV .non = true := rfl
def rIsF (n : String) (f : V → Bool) : List V → Hp → VK → Prop := fun xs H Q => ∃ x, xs = [x, .ty n] ∧ flatV x = true ∧ Q (.bl (f x)) H
theorem call_isF {X : Cx} {n : String} {f : V → Bool} (hn : kitB "NoneType" n = some (f .non)) (hb : ∀ b, kitB "bool" n = some (f (.bl b))) (hi : ∀ i, kitB "int" n = some (f (.int i))) (hs : ∀ z, kitB "str" n = some (f (.str z))) :
    CallR X (.builtin "isinstance") (rIsF n f) := by
  intro pins s σ H xs us Q I r h
  obtain ⟨x, rfl, fx, q⟩ := h
  refine call_isi pins s σ H _ us Q I r ?_
  cases x with
  | non => exact ⟨_, _, _, _, _, rfl, .ty n, .base (.non), kit_ty hn, q⟩
  | bl b => exact ⟨_, _, _, _, _, rfl, .ty n, .base (.bl b), kit_ty (hb b), q⟩
  | int i => exact ⟨_, _, _, _, _, rfl, .ty n, .base (.int i), kit_ty (hi i), q⟩
  | str z => exact ⟨_, _, _, _, _, rfl, .ty n, .base (.str z), kit_ty (hs z), q⟩
  | byt b => cases fx
  | flt b => cases fx
  | ref a => cases fx
  | ty a => cases fx
theorem call_isBool {X : Cx} : CallR X (.builtin "isinstance") (rIsF "bool" isBlV) :=
  call_isF (by decide +kernel) (fun _ => (by decide +kernel : kitB "bool" "bool" = some true)) (fun _ => (by decide +kernel : kitB "int" "bool" = some false)) fun _ => (by decide +kernel : kitB "str" "bool" = some false)
theorem call_isInt {X : Cx} : CallR X (.builtin "isinstance") (rIsF "int" isIntV) :=
  call_isF (by decide +kernel) (fun _ => (by decide +kernel : kitB "bool" "int" = some true)) (fun _ => (by decide +kernel : kitB "int" "int" = some true)) fun _ => (by decide +kernel : kitB "str" "int" = some false)

theorem Same.new {H : Hp} {p : Addr} {o : HO} (h : H p = none) : Same H (upd H p o) := fun b u e => by
  rw [upd_ne (ne_of_none e h)]
  exact e
/-- a store to what H does not know -/
theorem Same.mut {H H' : Hp} {p : Addr} {o : HO} (s : Same H H') (h : H p = none) : Same H (upd H' p o) := fun b u e => by
  rw [upd_ne (ne_of_none e h)]
  exact s b u e
theorem Same.seqT {K : PySem.W.Frag} {H H' : Hp} {a : Addr} {xs : List V} (e : Same H H') (h : SqT K H a xs) : SqT K H' a xs := by
  rcases h with (h | ⟨o, h⟩) | h
  · exact .inl (.inl (e _ _ h))
  · exact .inl (.inr ⟨o, e _ _ h⟩)
  · exact .inr h
/-- [..] == [] of an empty list -/
theorem ne_empty {K : PySem.W.Frag} {H : Hp} {a b : Addr} {Q : VK} (ha : SqL K H a []) (hb : SqL K H b []) (q : Q (.bl false) H) : rNeD K (.ref a) (.ref b) H Q :=
  ⟨.list [], .list [], .lst ha .nil, .lst hb .nil, by decide +kernel, by decide +kernel, q⟩

/-! ## one's own short ways -/
abbrev St : Type := L2.St
theorem exw {α : Type} {P : α → Prop} {a : α} (h : P a) : ∃ x, P x := ⟨a, h⟩
/-- for over a text that the body leaves as it is -/
theorem for_str {x : Str} {g : TG} {tb : TS} {D : Ends} {σ : St} {H : Hp} (Pv : Nat → St → Hp → Prop) (h0 : Pv 0 σ H)
    (hs : ∀ i c σ H, x.cps[i]? = some c → Pv i σ H → g (.str ⟨#[c]⟩) σ H fun σ2 H2 => tb { D with nx := Pv (i + 1), ct := Pv (i + 1), bk := D.nx } σ2 H2) (hd : ∀ σ H, Pv x.cps.size σ H → D.nx σ H) :
    ∃ W : Nat → Nat → St → Hp → Prop, (∃ m, W 0 m σ H) ∧ ∀ i m σ H, W i m σ H →
      ((Its x).stop i H ∧ D.nx σ H) ∨ ((Its x).go i H ∧ ∃ N : St → Hp → Prop, (∀ σ' H', N σ' H' → ∃ m', m' < m ∧ W (i + 1) m' σ' H') ∧ ∀ v H', (Its x).yld i H v H' → g v σ H' fun σ2 H2 => tb { D with nx := N, ct := N, bk := D.nx } σ2 H2) := by
  refine ⟨fun i m σ H => m = x.cps.size - i ∧ i ≤ x.cps.size ∧ Pv i σ H, ⟨x.cps.size, by simp, Nat.zero_le _, h0⟩, ?_⟩
  rintro i m σ H ⟨rfl, hi, p⟩
  by_cases hlt : i < x.cps.size
  · refine .inr ⟨hlt, Pv (i + 1), fun σ' H' p' => ⟨x.cps.size - (i + 1), by omega, rfl, hlt, p'⟩, fun v H' y => ?_⟩
    obtain ⟨e, c, hc, y⟩ := y
    subst e y
    exact hs i c σ _ hc p
  · have e : i = x.cps.size := by omega
    subst e
    exact .inl ⟨Nat.le_refl _, hd σ H p⟩
end Ru

set_option Elab.async false
set_option linter.all false
set_option maxRecDepth 100000
set_option maxHeartbeats 2000000
section
open PySem L2 Ru
local macro_rules | `(tactic| walk_at "rd") => `(tactic| try simp only [tSeq, tAsg, gName, tVar, tC, tOp, rI, rI0, tRet, tDrop, tIfS, tTest, tB, tAndV, tOrV, tNotV, tAnd, tOr, tNot, tIf, tCall, tCons, tNil, tCB, tAug, rEq, rNe, tNext, tRetN, L2.start, List.map_cons, List.map_nil, List.length_cons, List.length_nil, List.replicate, List.cons_append, List.nil_append, List.append_nil, List.getElem?_cons_zero, List.getElem?_cons_succ, List.set_cons_zero, List.set_cons_succ, Option.some.injEq, V.int.injEq, V.str.injEq, V.bl.injEq, V.ref.injEq, List.cons.injEq, exists_eq_left, exists_eq_left', exists_eq_right, exists_and_left, exists_const, true_and, and_true, CDiv, CMul, Int.reduceLT, Int.reduceLE, Int.reducePow, Int.reduceNeg, true_or, or_true, wipe, tSl, rSlS, tLst, tTup, rIsF, isBlV, isIntV, flat_s, flat_i, flat_b, flat_n, rIsB, rNotB, tPart, tNoPart, rIxS, reduceCtorEq, false_and, and_false, false_or, or_false, scal_ii, scal_bb, scal_ss, scal_sb, scal_bs, decide_true, decide_false, if_true, if_false, Bool.false_eq_true, Bool.not_true, Bool.not_false, ite_true, ite_false])

namespace My
def top (i : Nat) : Stmt := PySem.Challenge.pw_rungworks_k01_names.main.body.getD i (.Pass ⟨0, 0, 0, 0⟩)
/-! ## names -/
def isLow (c : Nat) : Bool := decide (97 ≤ c ∧ c ≤ 122)
def isWord (z : Str) : Bool := z.cps.toList.all isLow && !z.cps.toList.isEmpty
abbrev sSIGNS : Str := "abcdefghijklmnopqrstuvwxyz"
def keptL : List Str := ["on", "off", "and", "or", "not", "set", "reset", "timer", "counter", "inputs", "outputs"]
def keptV : List V := keptL.map V.str
def isName (z : Str) : Bool := isWord z && decide (z.length ≤ 8) && !decide (z ∈ keptL)
theorem signs_cps : sSIGNS.cps.toList = (List.range 26).map (· + 97) := by decide +kernel
theorem mem_signs {c : Nat} : c ∈ sSIGNS.cps.toList ↔ isLow c = true := by
  rw [signs_cps, List.mem_map]
  unfold isLow
  rw [decide_eq_true_eq]
  constructor
  · rintro ⟨a, h, rfl⟩
    rw [List.mem_range] at h
    omega
  · intro h
    exact ⟨c - 97, List.mem_range.mpr (by omega), by omega⟩
theorem dec_signs {c : Nat} : decide (c ∈ sSIGNS.cps.toList) = isLow c := by
  rw [Bool.eq_iff_iff, decide_eq_true_eq]
  exact mem_signs
theorem inV_strs (z : Str) : ∀ l : List Str, inV (.str z) (l.map V.str) = decide (z ∈ l)
  | [] => by simp [inV]
  | x :: l => by
    have ih := inV_strs z l
    unfold inV at ih ⊢
    rw [List.map_cons, List.any_cons, ih]
    rw [Bool.eq_iff_iff]
    simp [eqV]
    constructor
    · rintro (h | h)
      · exact .inl h.symm
      · exact .inr h
    · rintro (h | h)
      · exact .inl h.symm
      · exact .inr h
theorem flat_strs : ∀ l : List Str, (l.map V.str).all flatV = true
  | [] => rfl
  | x :: l => by rw [List.map_cons, List.all_cons, flat_strs l]; rfl
theorem isWord_ne {z : Str} : (z ≠ ("" : Str)) ↔ z.cps.toList.isEmpty = false := by
  obtain ⟨a⟩ := z
  have e : ("" : Str) = ⟨#[]⟩ := by decide +kernel
  rw [e]
  cases h : a.toList with
  | nil =>
    have : a = #[] := by
      apply Array.ext'
      rw [h]
    subst this
    simp
  | cons x r =>
    refine ⟨fun _ => rfl, fun _ q => ?_⟩
    have q' : a = #[] := by injection q
    subst q'
    cases h
def spIsWord : Sp := fun vs H Q _ => ∃ z : Str, vs = [.str z] ∧ Q (.bl (isWord z)) H
def spIsName : Sp := fun vs H Q _ => ∃ z : Str, vs = [.str z] ∧ z.length ≤ sizeLine ∧ Q (.bl (isName z)) H
abbrev s_is_word : Stmt := top 4
theorem sc_is_word : FnScope ["text", "sign"] ["text"] (defScope s_is_word) := ⟨rfl, rfl, rfl, by decide +kernel, rfl, by decide +kernel, by decide +kernel⟩
abbrev s_is_name : Stmt := top 5
theorem sc_is_name : FnScope ["name"] ["name"] (defScope s_is_name) := ⟨rfl, rfl, rfl, by decide +kernel, rfl, by decide +kernel, by decide +kernel⟩
structure TNames (K : PySem.W.Frag) (mg : Str → Option Value) : Prop where
  d_is_word : DefAt K mg "is_word" s_is_word ["text"]
  d_is_name : DefAt K mg "is_name" s_is_name ["name"]
  g_SIGNS : GlobC mg "SIGNS" (.str sSIGNS)
  g_MOST_SIGNS : GlobC mg "MOST_SIGNS" (.int 8)
  g_KEPT : GlobT K mg "KEPT" keptV
  z_len : mg "len" = none
section
variable {P : Program} {w : World} {K : PySem.W.Frag} {mg : Str → Option Value} {base : Heap}
theorem ok_is_word (T : TNames K mg) : FnAt P w K mg base CX0 "is_word" 1 ["text"] spIsWord := by
  refine fnAt_ok T.d_is_word sc_is_word (fun vs H Q E h => ?_) (fun f cdv A outer s H vs Q E hr h => ?_)
  · obtain ⟨z, rfl, _⟩ := h; rfl
  · obtain ⟨z, rfl, k⟩ := h
    refine ⟨_, (pss_cons (ps_for PassesOwn.never rfl (pi_str (pv 0)) (pg_name (i := 1) sc_is_word.nd rfl (by first | exact Or.inl rfl | exact Or.inr rfl)) (pss_one (ps_if (pt_cmpR op_notIn_sign (pv 1) (pe_gc T.g_SIGNS) rfl) (pss_one (ps_ret pe_bl)) pss_nil)))
        (pss_one (ps_ret (pe_cmpR op_ne (pv 0) pe_str (nomark _))))), ?_⟩
    refine ⟨_, rfl, z, rfl, for_str (x := z) (fun i σ H' => ∃ v, σ = [some (.str z), v] ∧ H' = H ∧ (z.cps.toList.take i).all isLow = true) ⟨none, rfl, rfl, rfl⟩ ?_ ?_⟩
    · rintro i c σ H' hi ⟨v, rfl, rfl, hp⟩
      have hi' : z.cps.toList[i]? = some c := by simpa using hi
      walk_at "rd"
      refine ⟨c, rfl, ?_⟩
      rw [dec_signs]
      by_cases hc : isLow c = true
      · rw [hc]
        simp only [Bool.not_true, Bool.false_eq_true, if_false]
        rw [List.take_succ, hi', List.all_append, hp]
        simp [hc]
      · have hc' : isLow c = false := by simpa using hc
        rw [hc']
        refine iteT ?_
        have e : isWord z = false := by
          unfold isWord
          rw [Bool.and_eq_false_iff]
          left
          rw [List.all_eq_false]
          exact ⟨c, List.mem_of_getElem? hi', by simp [hc']⟩
        rw [e] at k
        exact k
    · rintro σ H' ⟨v, rfl, rfl, hp⟩
      walk_at "rd"
      have e : (!decide (z = "")) = isWord z := by
        unfold isWord
        have hp' : z.cps.toList.all isLow = true := by
          have : z.cps.toList.take z.cps.size = z.cps.toList := by
            rw [List.take_of_length_le]
            simp
          rw [this] at hp
          exact hp
        rw [hp', Bool.true_and, Bool.eq_iff_iff]
        simp only [Bool.not_eq_true', decide_eq_false_iff_not]
        exact isWord_ne
      rw [e]
      exact k
theorem ok_is_name (T : TNames K mg) : FnAt P w K mg base CX0 "is_name" 2 ["name"] spIsName := by
  have G_is_word : FnAt P w K mg base CX0 "is_word" 1 _ spIsWord := ok_is_word T
  refine fnAt_ok T.d_is_name sc_is_name (fun vs H Q E h => ?_) (fun f cdv A outer s H vs Q E hr h => ?_)
  · obtain ⟨z, rfl, _⟩ := h; rfl
  · obtain ⟨z, rfl, hz, k⟩ := h
    refine ⟨_, (pss_one (ps_ret (pe_and (pe_callF G_is_word hr pass0 (pa_cons (pv 0) pa_nil)) (pe_and (pe_cmpR op_le (pe_callB call_len_str (by rfl) T.z_len PySem.boot_len (pa_cons (pv 0) pa_nil)) (pe_gc T.g_MOST_SIGNS) (nomark _)) (pe_one (pe_cmp (pc_notInK T.g_KEPT (pv 0)))))))), ?_⟩
    walk_at "rd"
    refine ⟨z, rfl, ?_⟩
    unfold isName at k
    cases hw : isWord z with
    | false =>
      rw [hw] at k
      exact ⟨false, rfl, iteF k⟩
    | true =>
      rw [hw] at k
      refine ⟨true, rfl, iteT ⟨hz, ?_⟩⟩
      by_cases hl : z.length ≤ 8
      · have hl' : ((z.length : Nat) : Int) ≤ 8 := by omega
        rw [decide_eq_true hl']
        refine iteT ⟨flat_strs _, ?_⟩
        unfold keptV
        rw [inV_strs]
        rw [decide_eq_true hl] at k
        exact k
      · have hl' : ¬ ((z.length : Nat) : Int) ≤ 8 := by omega
        rw [decide_eq_false hl']
        rw [decide_eq_false hl] at k
        exact iteF k
end

/-! ## the law's cells and words -/
def cellAt (ns : List Int) (k : Int) : Int := ns.getD k.toNat 0
def mixed (c k : Int) : Int := (((c + 7919 * k + 11) * 48271 % 2147483647) * ((c + 7919 * k + 11) * 48271 % 2147483647) + 40692 * ((c + 7919 * k + 11) * 48271 % 2147483647)) % 2147483399
theorem mixed_nn (c k : Int) : 0 ≤ mixed c k := Int.emod_nonneg _ (by decide)
theorem mixed_lt (c k : Int) : mixed c k < 2147483399 := Int.emod_lt_of_pos _ (by decide)
def signAt (c : Int) (k : Nat) : Nat := 97 + (mixed c k / 31 % 26).toNat
def wordL (c : Int) (n : Nat) : List Nat := (List.range n).map (signAt c)
theorem wordL_len (c : Int) (n : Nat) : (wordL c n).length = n := by simp [wordL]
theorem wordL_succ (c : Int) (n : Nat) : wordL c (n + 1) = wordL c n ++ [signAt c n] := by simp [wordL, List.range_succ]
theorem wordL_low (c : Int) (n : Nat) : ∀ x ∈ wordL c n, 97 ≤ x ∧ x ≤ 122 := by
  intro x hx
  obtain ⟨k, _, rfl⟩ := List.mem_map.mp hx
  unfold signAt
  have h1 : 0 ≤ mixed c k / 31 % 26 := Int.emod_nonneg _ (by decide)
  have h2 : mixed c k / 31 % 26 < 26 := Int.emod_lt_of_pos _ (by decide)
  omega
theorem letters_at {j : Int} (h0 : 0 ≤ j) (h1 : j < 26) : atI (("abcdefghijklmnopqrstuvwxyz" : Str)).cps.toList j = some (97 + j.toNat) := by
  have e : ("abcdefghijklmnopqrstuvwxyz" : Str).cps.toList = (List.range 26).map (97 + ·) := by decide +kernel
  rw [e]
  refine atI_int h0 ?_
  rw [List.getElem?_map, List.getElem?_range (by omega)]
  rfl
def spCellAt (K : PySem.W.Frag) : Sp := fun vs H Q _ => ∃ (a : Addr) (ns : List Int) (k : Int), vs = [.ref a, .int k] ∧ SqL K H a (ns.map V.int) ∧ 0 ≤ k ∧ Q (.int (cellAt ns k)) H
def spMixed : Sp := fun vs H Q _ => ∃ c k : Int, vs = [.int c, .int k] ∧ Q (.int (mixed c k)) H
def spWord : Sp := fun vs H Q _ => ∃ c n : Int, vs = [.int c, .int n] ∧ 0 ≤ n ∧ n ≤ 1000 ∧ Q (.str (mkS (wordL c n.toNat))) H
abbrev s__law_cell_at : Stmt := top 7
theorem sc__law_cell_at : FnScope ["_law_script", "_law_k"] ["_law_script", "_law_k"] (defScope s__law_cell_at) := ⟨rfl, rfl, rfl, by decide +kernel, rfl, by decide +kernel, by decide +kernel⟩
abbrev s__law_mixed : Stmt := top 8
theorem sc__law_mixed : FnScope ["_law_cell", "_law_k", "_law_mix"] ["_law_cell", "_law_k"] (defScope s__law_mixed) := ⟨rfl, rfl, rfl, by decide +kernel, rfl, by decide +kernel, by decide +kernel⟩
abbrev s__law_word : Stmt := top 9
theorem sc__law_word : FnScope ["_law_cell", "_law_size", "_law_signs", "_law_word_here", "_law_k"] ["_law_cell", "_law_size"] (defScope s__law_word) := ⟨rfl, rfl, rfl, by decide +kernel, rfl, by decide +kernel, by decide +kernel⟩
structure TCells (K : PySem.W.Frag) (mg : Str → Option Value) : Prop where
  d_cell_at : DefAt K mg "_law_cell_at" s__law_cell_at ["_law_script", "_law_k"]
  d_mixed : DefAt K mg "_law_mixed" s__law_mixed ["_law_cell", "_law_k"]
  d_word : DefAt K mg "_law_word" s__law_word ["_law_cell", "_law_size"]
  z_len : mg "len" = none
  z_range : mg "range" = none
section
variable {P : Program} {w : World} {K : PySem.W.Frag} {mg : Str → Option Value} {base : Heap}
theorem ok_cell_at (T : TCells K mg) : FnAt P w K mg base CX0 "_law_cell_at" 1 ["_law_script", "_law_k"] (spCellAt K) := by
  refine fnAt_ok T.d_cell_at sc__law_cell_at (fun vs H Q E h => ?_) (fun f cdv A outer s H vs Q E hr h => ?_)
  · obtain ⟨a, ns, k, rfl, _⟩ := h; rfl
  · obtain ⟨a, ns, n, rfl, hs, h0, k⟩ := h
    refine ⟨_, (pss_cons (ps_if (pt_cmpR op_lt (pv 1) (pe_callB call_len_seq (by rfl) T.z_len PySem.boot_len (pa_cons (pv 0) pa_nil)) (nomark _)) (pss_one (ps_ret (pe_ix ix_list (pv 0) (pv 1) (fun _ _ => rfl)))) pss_nil)
        (pss_one (ps_ret pe_int))), ?_⟩
    walk_at "rd"
    refine ⟨_, .inl hs, ?_⟩
    rw [List.length_map]
    unfold cellAt at k
    by_cases hl : n < (ns.length : Int)
    · rw [decide_eq_true hl]
      have hn : n.toNat < ns.length := by omega
      refine iteT ⟨a, _, _, .int ns[n.toNat], rfl, rfl, hs, ?_, ?_⟩
      · exact atI_int h0 (by rw [List.getElem?_map, List.getElem?_eq_getElem hn]; rfl)
      · rw [List.getD_eq_getElem?_getD, List.getElem?_eq_getElem hn] at k
        exact k
    · rw [decide_eq_false hl]
      have hn : ns.length ≤ n.toNat := by omega
      refine iteF ?_
      rw [List.getD_eq_getElem?_getD, List.getElem?_eq_none hn] at k
      exact k
theorem ok_mixed (T : TCells K mg) : FnAt P w K mg base CX0 "_law_mixed" 1 ["_law_cell", "_law_k"] spMixed := by
  refine fnAt_ok T.d_mixed sc__law_mixed (fun vs H Q E h => ?_) (fun f cdv A outer s H vs Q E hr h => ?_)
  · obtain ⟨c, k, rfl, _⟩ := h; rfl
  · obtain ⟨c, n, rfl, k⟩ := h
    refine ⟨_, (pss_cons (ps_set (i := 2) sc__law_mixed.nd rfl (by first | exact Or.inl rfl | exact Or.inr rfl) (pe_op op_mod (pe_op op_mul (pe_op op_add (pe_op op_add (pv 0) (pe_op op_mul pe_int (pv 1))) pe_int) pe_int) pe_int))
        (pss_one (ps_ret (pe_op op_mod (pe_op op_add (pe_op op_mul (pv 2) (pv 2)) (pe_op op_mul pe_int (pv 2))) pe_int)))), ?_⟩
    walk_at "rd"
    have h1 : 0 ≤ (c + 7919 * n + 11) * 48271 % 2147483647 := Int.emod_nonneg _ (by decide)
    have h2 : (c + 7919 * n + 11) * 48271 % 2147483647 < 2147483647 := Int.emod_lt_of_pos _ (by decide)
    exact ⟨.inl ⟨by omega, by omega⟩, k⟩
theorem ok_word (T : TCells K mg) : FnAt P w K mg base CX0 "_law_word" 2 ["_law_cell", "_law_size"] spWord := by
  have G__law_mixed : FnAt P w K mg base CX0 "_law_mixed" 1 _ spMixed := ok_mixed T
  refine fnAt_ok T.d_word sc__law_word (fun vs H Q E h => ?_) (fun f cdv A outer s H vs Q E hr h => ?_)
  · obtain ⟨c, k, rfl, _⟩ := h; rfl
  · obtain ⟨c, n, rfl, hn0, hn, k⟩ := h
    refine ⟨_, (pss_cons (ps_set (i := 2) sc__law_word.nd rfl (by first | exact Or.inl rfl | exact Or.inr rfl) pe_str)
        (pss_cons (ps_set (i := 3) sc__law_word.nd rfl (by first | exact Or.inl rfl | exact Or.inr rfl) pe_str)
        (pss_cons (ps_for PassesOwn.never rfl (pi_range1 rfl T.z_range (pa_cons (pv 1) pa_nil)) (pg_name (i := 4) sc__law_word.nd rfl (by first | exact Or.inl rfl | exact Or.inr rfl)) (pss_one (ps_aug (i := 3) sc__law_word.nd rfl (by first | exact Or.inl rfl | exact Or.inr rfl) (pe_ix ix_str (pv 2) (pe_op op_mod (pe_op op_fdiv (pe_callF G__law_mixed hr pass0 (pa_cons (pv 0) (pa_cons (pv 4) pa_nil))) pe_int) pe_int) (fun _ _ => rfl)) iop_add_str)))
        (pss_one (ps_ret (pv 3)))))), ?_⟩
    walk_at "rd"
    refine ⟨_, rfl, _, rfl, by omega, by omega, for_range (lo := 0) (n := n.toNat) (fun i σ H' => ∃ v, σ = [some (.int c), some (.int n), some (.str ("abcdefghijklmnopqrstuvwxyz" : Str)), some (.str (mkS (wordL c i))), v] ∧ H' = H) ⟨none, by rw [empty_mk]; rfl, rfl⟩ ?_ ?_⟩
    · rintro i σ H' hi ⟨v, rfl, rfl⟩
      walk_at "rd"
      have h1 : 0 ≤ mixed c (i : Nat) / 31 % 26 := Int.emod_nonneg _ (by decide)
      have h2 : mixed c (i : Nat) / 31 % 26 < 26 := Int.emod_lt_of_pos _ (by decide)
      rw [Int.zero_add]
      refine ⟨_, _, rfl, _, rfl, by decide +kernel, _, letters_at h1 h2, ?_, _, ⟨?_, rfl⟩, rfl⟩
      · rw [mkS_one, mkS_len, mkS_len, wordL_len, sizeLine_eq]
        simp
        omega
      · rw [mkS_one, mkS_app, wordL_succ]
        rfl
    · rintro σ H' ⟨v, rfl, rfl⟩
      walk_at "rd"
      exact k
end

abbrev s__law_kept : Stmt := top 10
theorem sc__law_kept : FnScope [] [] (defScope s__law_kept) := ⟨rfl, rfl, rfl, by decide +kernel, rfl, by decide +kernel, by decide +kernel⟩
abbrev s__law_text : Stmt := top 11
theorem sc__law_text : FnScope ["_law_cell", "_law_more", "_law_word_here", "_law_others", "_law_at", "_law_sign"] ["_law_cell", "_law_more"] (defScope s__law_text) := ⟨rfl, rfl, rfl, by decide +kernel, rfl, by decide +kernel, by decide +kernel⟩
abbrev s_law : Stmt := top 12
theorem sc_law : FnScope ["_law_script", "_law_others", "_law_word_here", "_law_k", "_law_cell", "_law_text_here", "_law_due", "_law_sign", "_law_found"] ["_law_script"] (defScope s_law) := ⟨rfl, rfl, rfl, by decide +kernel, rfl, by decide +kernel, by decide +kernel⟩
abbrev oth : Str := " !\"#$&'()*+,-./0123456789:;<=>?@ABCDEFGHIJKLMNOPQRSTUVWXYZ[\\]^_`{|}~\n\t"
theorem oth_len : oth.cps.toList.length = 70 := by decide +kernel
structure Txt (K : PySem.W.Frag) (mg : Str → Option Value) : Prop where
  names : TNames K mg
  cells : TCells K mg
  d_kept : DefAt K mg "_law_kept" s__law_kept []
  d_text : DefAt K mg "_law_text" s__law_text ["_law_cell", "_law_more"]
  law : LawAt K mg s_law "_law_script"
  z_len : mg "len" = none
  z_range : mg "range" = none
  z_isinstance : mg "isinstance" = none
  z_bool : mg "bool" = none
def spKept : Sp := fun vs H Q _ => vs = [] ∧ ∀ p, H p = none → Q (.ref p) (upd H p (.lst keptV))
def spText : Sp := fun vs H Q _ => ∃ c m : Int, vs = [.int c, .int m] ∧ 0 ≤ c ∧ 0 ≤ m ∧ ∀ z H', z.length ≤ 100 → Same H H' → Q (.str z) H'
section
variable {P : Program} {w : World} {K : PySem.W.Frag} {mg : Str → Option Value} {base : Heap}
theorem ok_kept (T : Txt K mg) : FnAt P w K mg base CX0 "_law_kept" 1 [] spKept := by
  refine fnAt_ok T.d_kept sc__law_kept (fun vs H Q E h => ?_) (fun f cdv A outer s H vs Q E hr h => ?_)
  · obtain ⟨rfl, _⟩ := h; rfl
  · obtain ⟨rfl, k⟩ := h
    refine ⟨_, (pss_one (ps_ret (pe_lst (pa_cons pe_str (pa_cons pe_str (pa_cons pe_str (pa_cons pe_str (pa_cons pe_str (pa_cons pe_str (pa_cons pe_str (pa_cons pe_str (pa_cons pe_str (pa_cons pe_str (pa_cons pe_str pa_nil)))))))))))))), ?_⟩
    exact ⟨line_ge (by decide), fun p hp => k p hp⟩
theorem ok_text (T : Txt K mg) : FnAt P w K mg base CX0 "_law_text" 3 ["_law_cell", "_law_more"] spText := by
  have G__law_word : FnAt P w K mg base CX0 "_law_word" 2 _ spWord := ok_word T.cells
  have G__law_kept : FnAt P w K mg base CX0 "_law_kept" 1 _ spKept := ok_kept T
  refine fnAt_ok T.d_text sc__law_text (fun vs H Q E h => ?_) (fun f cdv A outer s H vs Q E hr h => ?_)
  · obtain ⟨c, m, rfl, _⟩ := h; rfl
  · obtain ⟨c, m, rfl, hc, hm, k⟩ := h
    refine ⟨_, (pss_cons (ps_set (i := 2) sc__law_text.nd rfl (by first | exact Or.inl rfl | exact Or.inr rfl) (pe_callF G__law_word hr pass0 (pa_cons (pv 0) (pa_cons (pe_op op_mod (pv 0) pe_int) pa_nil))))
        (C8.pss_cut (ps_if (pt_cmpR op_eq (pe_op op_mod (pe_op op_fdiv (pv 0) pe_int) pe_int) pe_int (nomark _)) (pss_one (ps_set (i := 2) sc__law_text.nd rfl (by first | exact Or.inl rfl | exact Or.inr rfl) (pe_ix ix_list (pe_callF0 G__law_kept hr pass0) (pe_op op_mod (pe_op op_fdiv (pv 0) pe_int) pe_int) (fun _ _ => rfl)))) pss_nil)
        (pss_cons (ps_set (i := 3) sc__law_text.nd rfl (by first | exact Or.inl rfl | exact Or.inr rfl) pe_str)
        (pss_cons (ps_set (i := 4) sc__law_text.nd rfl (by first | exact Or.inl rfl | exact Or.inr rfl) (pe_op op_mod (pe_op op_fdiv (pv 1) pe_int) (pe_op op_add (pe_callB call_len_str (by rfl) T.z_len PySem.boot_len (pa_cons (pv 2) pa_nil)) pe_int)))
        (pss_cons (ps_set (i := 5) sc__law_text.nd rfl (by first | exact Or.inl rfl | exact Or.inr rfl) (pe_ix ix_str (pv 3) (pe_op op_mod (pe_op op_fdiv (pv 1) pe_int) (pe_callB call_len_str (by rfl) T.z_len PySem.boot_len (pa_cons (pv 3) pa_nil))) (fun _ _ => rfl)))
        (C8.pss_cut (ps_if (pt_cmpR op_eq (pe_op op_mod (pv 1) pe_int) pe_int (nomark _)) (pss_one (ps_set (i := 5) sc__law_text.nd rfl (by first | exact Or.inl rfl | exact Or.inr rfl) (pe_callF G__law_word hr pass0 (pa_cons (pv 1) (pa_cons pe_int pa_nil))))) pss_nil)
        (pss_cons (ps_if (pt_cmpR op_lt (pe_op op_mod (pv 1) pe_int) pe_int (nomark _)) (pss_one (ps_ret (pe_op op_add_str (pe_op op_add_str (pe_slice sl_str (pv 2) po_none (po_some (pv 4))) (pv 5)) (pe_slice sl_str (pv 2) (po_some (pe_op op_add (pv 4) (pe_op op_mod (pe_op op_fdiv (pv 1) pe_int) pe_int))) po_none)))) pss_nil)
        (pss_cons (ps_if (pt_cmpR op_eq (pe_op op_mod (pv 1) pe_int) pe_int (nomark _)) (pss_one (ps_ret (pe_op op_add_str (pe_slice sl_str (pv 2) po_none (po_some (pv 4))) (pe_slice sl_str (pv 2) (po_some (pe_op op_add (pv 4) pe_int)) po_none)))) pss_nil)
        (pss_one (ps_ret (pv 2))))))))))), ?_⟩
    walk_at "rd"
    refine ⟨c, c % 11, rfl, Int.emod_nonneg _ (by decide), ?_, ?_⟩
    · have := Int.emod_lt_of_pos c (show (0 : Int) < 11 by decide)
      omega
    refine ⟨fun σ H' => ∃ l : List Nat, l.length ≤ 10 ∧ σ = [some (.int c), some (.int m), some (.str (mkS l)), none, none, none] ∧ Same H H', ?_, ?_⟩
    · walk_at "rd"
      refine ite2 (fun _ => ?_) (fun _ => ?_)
      · refine ⟨rfl, fun p hp => ?_⟩
        have h1 : 0 ≤ c / 33 % 11 := Int.emod_nonneg _ (by decide)
        have h2 : c / 33 % 11 < 11 := Int.emod_lt_of_pos _ (by decide)
        obtain ⟨v, hv, ha⟩ := atI_ex (xs := keptV) h1 h2
        refine ⟨p, keptV, _, v, rfl, rfl, SqL.of upd_same, ha, ?_⟩
        obtain ⟨z, hz, rfl⟩ := List.mem_map.mp hv
        refine ⟨z.cps.toList, ?_, ?_, fun b o e => ?_⟩
        · have q : ∀ z ∈ keptL, z.cps.toList.length ≤ 10 := by decide +kernel
          exact q z hz
        · rw [mkS_tl]
        · rw [upd_ne (ne_of_none e hp)]
          exact e
      · refine ⟨wordL c (c % 11).toNat, ?_, rfl, Same.refl _⟩
        rw [wordL_len]
        have := Int.emod_lt_of_pos c (show (0 : Int) < 11 by decide)
        omega
    rintro σ H1 ⟨l, hl, rfl, s1⟩
    walk_at "rd"
    have q1 : (0 : Int) < ((mkS l).length : Int) + 1 := by omega
    have q2 : ((mkS l).length) ≤ 10 := by rw [mkS_len]; exact hl
    have q3 : oth.length = 70 := oth_len
    have q4 := Int.emod_nonneg (m / 66) (show (70 : Int) ≠ 0 by decide)
    have q5 := Int.emod_lt_of_pos (m / 66) (show (0 : Int) < 70 by decide)
    obtain ⟨x, _, hx⟩ := atI_ex (xs := oth.cps.toList) (i := m / 66 % 70) q4 (by rw [oth_len]; exact q5)
    refine ⟨line_ge (by omega), q1, line_ge (by rw [q3]; decide), by rw [q3]; decide, line_ge (by rw [q3]; decide), x, by rw [q3]; exact hx, ?_⟩
    refine ⟨fun σ H' => ∃ (i : Int) (y : Str), y.length ≤ 1 ∧ σ = [some (.int c), some (.int m), some (.str (mkS l)), some (.str oth), some (.int i), some (.str y)] ∧ Same H H', ?_, ?_⟩
    · walk_at "rd"
      refine ite2 (fun _ => ?_) (fun _ => ?_)
      · refine ⟨m, 1, rfl, by decide, by decide, _, _, ?_, ⟨rfl, rfl⟩, s1⟩
        rw [mkS_len, wordL_len]
        decide
      · exact ⟨_, ⟨#[x]⟩, Nat.le_refl 1, ⟨rfl, rfl⟩, s1⟩
    rintro σ H2 ⟨i, y, hy, rfl, s2⟩
    have c1 := cutS_le (mkS l) none (some i)
    have c2 := cutS_le (mkS l) (some (i + m / 7000 % 2)) none
    have c3 := cutS_le (mkS l) (some (i + 1)) none
    walk_at "rd"
    refine ite2 (fun _ => ?_) (fun _ => ?_)
    · refine ⟨line_ge (by omega), line_ge (by omega), line_ge (by omega), line_ge ?_, k _ _ ?_ s2⟩
      · rw [len_app]; omega
      · rw [len_app, len_app]; omega
    refine ite2 (fun _ => ?_) (fun _ => ?_)
    · refine ⟨line_ge (by omega), line_ge (by omega), line_ge (by omega), k _ _ ?_ s2⟩
      rw [len_app]; omega
    · exact k _ _ (by omega) s2
def due0 (z : Str) : Bool := decide (1 ≤ z.length) && decide (z.length ≤ 8) && !decide (z ∈ keptL)
theorem due_name (z : Str) : (due0 z && z.cps.toList.all isLow) = isName z := by
  unfold due0 isName isWord
  have e : z.length = z.cps.toList.length := by simp [Str.length]
  cases h : z.cps.toList with
  | nil =>
    rw [h] at e
    have e' : z.length = 0 := e
    simp [e']
  | cons x r =>
    rw [h] at e
    have e' : 1 ≤ z.length := by rw [e]; simp
    rw [decide_eq_true e']
    simp only [List.isEmpty_cons, Bool.true_and, Bool.not_false, Bool.and_true]
    rw [Bool.and_comm, Bool.and_assoc]
def oth1 : List V := [.str "coil", .str "latch", .str "unlatch", .str "scan", .str "bit", .str "contact", .str "fixed", .str "series", .str "branch", .str "turned", .str "input"]
def oth2 : List V := [.str "output", .str "again", .str "never", .str "asleep", .str "fights", .str "tidy", .str "like"]
def othL : List Str := ["coil", "latch", "unlatch", "scan", "bit", "contact", "fixed", "series", "branch", "turned", "input", "output", "again", "never", "asleep", "fights", "tidy", "like"]
theorem ok_law (T : Txt K mg) {f : Addr} {fd : FuncData} (F : Fun K "law" "law" s_law f fd) : FnOk P w K mg base CX0 4 f fd ["_law_script"] (spLaw K) := by
  have G__law_word : FnAt P w K mg base CX0 "_law_word" 2 _ spWord := ok_word T.cells
  have G__law_kept : FnAt P w K mg base CX0 "_law_kept" 1 _ spKept := ok_kept T
  have G__law_mixed : FnAt P w K mg base CX0 "_law_mixed" 1 _ spMixed := ok_mixed T.cells
  have G__law_cell_at : FnAt P w K mg base CX0 "_law_cell_at" 1 _ (spCellAt K) := ok_cell_at T.cells
  have G__law_text : FnAt P w K mg base CX0 "_law_text" 3 _ spText := ok_text T
  have G_is_name : FnAt P w K mg base CX0 "is_name" 2 _ spIsName := ok_is_name T.names
  refine F.ok sc_law (fun vs H Q E h => ?_) (fun cdv A outer s H vs Q E hr h => ?_)
  · obtain ⟨a, ns, rfl, _⟩ := h; rfl
  · obtain ⟨a, ns, rfl, hS, hlen, k⟩ := h
    refine ⟨_, (pss_cons (ps_set (i := 1) sc_law.nd rfl (by first | exact Or.inl rfl | exact Or.inr rfl) (pe_lst (pa_cons pe_str (pa_cons pe_str (pa_cons pe_str (pa_cons pe_str (pa_cons pe_str (pa_cons pe_str (pa_cons pe_str (pa_cons pe_str (pa_cons pe_str (pa_cons pe_str (pa_cons pe_str pa_nil)))))))))))))
        (pss_cons (ps_set (i := 1) sc_law.nd rfl (by first | exact Or.inl rfl | exact Or.inr rfl) (pe_op op_cat (pv 1) (pe_lst (pa_cons pe_str (pa_cons pe_str (pa_cons pe_str (pa_cons pe_str (pa_cons pe_str (pa_cons pe_str (pa_cons pe_str pa_nil))))))))))
        (pss_cons (ps_if (pt_cmpR (op_neD hr.units) (pe_lc (own := [("_law_word_here", 2)]) (g := gName 2) rfl sc_law.nd (pi_list (pv 1)) (blkOk_by (own := [("_law_word_here", 2)]) (N := ["_law_script", "_law_others", "_law_word_here", "_law_k", "_law_cell", "_law_text_here", "_law_due", "_law_sign", "_law_found"]) (sc := defScope s_law) (by decide +kernel)) (fun _ _ _ _ _ => pg_name (i := 2) sc_law.nd rfl (Or.inl rfl)) (fun _ _ _ _ _ => (pts_one (pt_cmpR op_notBl (pe_callF G_is_name hr pass0 (pa_cons (pv 2) pa_nil)) pe_bl (nomark _)))) (fun _ _ _ _ _ => (pv 2))) (pe_lst pa_nil) (nomark _)) (pss_one (ps_ret pe_bl)) pss_nil)
        (pss_cons (ps_for PassesOwn.never rfl (pi_range1 rfl T.z_range (pa_cons pe_int pa_nil)) (pg_name (i := 3) sc_law.nd rfl (by first | exact Or.inl rfl | exact Or.inr rfl)) (pss_cons (ps_set (i := 4) sc_law.nd rfl (by first | exact Or.inl rfl | exact Or.inr rfl) (pe_callF G__law_mixed hr pass0 (pa_cons (pe_callF G__law_cell_at hr pass0 (pa_cons (pv 0) (pa_cons (pv 3) pa_nil))) (pa_cons (pv 3) pa_nil))))
          (pss_cons (ps_set (i := 5) sc_law.nd rfl (by first | exact Or.inl rfl | exact Or.inr rfl) (pe_callF G__law_text hr pass0 (pa_cons (pv 4) (pa_cons (pe_callF G__law_mixed hr pass0 (pa_cons (pe_callF G__law_cell_at hr pass0 (pa_cons (pv 0) (pa_cons (pv 3) pa_nil))) (pa_cons (pe_op op_add pe_int (pv 3)) pa_nil))) pa_nil))))
          (C8.pss_cut (ps_set (i := 6) sc_law.nd rfl (by first | exact Or.inl rfl | exact Or.inr rfl) (pe_and (pe_cmpR op_le pe_int (pe_callB call_len_str (by rfl) T.z_len PySem.boot_len (pa_cons (pv 5) pa_nil)) (nomark _)) (pe_and (pe_cmpR op_le (pe_callB call_len_str (by rfl) T.z_len PySem.boot_len (pa_cons (pv 5) pa_nil)) pe_int (nomark _)) (pe_one (pe_cmpR op_notIn_seq (pv 5) (pe_callF0 G__law_kept hr pass0) rfl)))))
          (pss_cons (ps_for PassesOwn.never rfl (pi_str (pv 5)) (pg_name (i := 7) sc_law.nd rfl (by first | exact Or.inl rfl | exact Or.inr rfl)) (pss_one (ps_if (pt_cmpR op_notIn_sign (pv 7) pe_str rfl) (pss_one (ps_set (i := 6) sc_law.nd rfl (by first | exact Or.inl rfl | exact Or.inr rfl) pe_bl)) pss_nil)))
          (pss_cons (ps_set (i := 8) sc_law.nd rfl (by first | exact Or.inl rfl | exact Or.inr rfl) (pe_callF G_is_name hr pass0 (pa_cons (pv 5) pa_nil)))
          (pss_one (ps_if (PW.pt (pw_or (pt_not (pt_val (pe_callB call_isBool (by rfl) T.z_isinstance (by decide +kernel) (pa_cons (pv 8) (pa_cons (pe_bltn (v := .ty "bool") (by rfl) T.z_bool (by decide +kernel) rfl) pa_nil))))) (pw_or (pt_cmpR op_ne (pv 8) (pv 6) (nomark _)) (pw_or1 (pt_cmpR op_ne (pe_callF G_is_name hr pass0 (pa_cons (pv 5) pa_nil)) (pv 6) (nomark _)))))) (pss_one (ps_ret pe_bl)) pss_nil))))))))
        (pss_one (ps_ret pe_bl)))))), ?_⟩
    walk_at "rd"
    refine ⟨line_ge (by decide), fun p1 np1 => ⟨line_ge (by decide), fun p2 np2 => ?_⟩⟩
    refine ⟨p1, p2, oth1, oth2, rfl, rfl, Same.new np2 _ _ upd_same, upd_same, line_ge (by decide), fun p3 np3 => ?_⟩
    have s3 : Same H _ := ((Same.new (o := .lst oth1) np1).trans (Same.new (o := .lst oth2) np2)).trans (Same.new (o := .lst (oth1 ++ oth2)) np3)
    -- [word for word in others if is_name(word) is not True]
    refine ⟨_, rfl, p3, rfl, ⟨_, SqL.of upd_same⟩, fun D nD => lc_list (K := K) (a := p3) (xs := oth1 ++ oth2) (fun i H' => Same H H' ∧ H' p3 = some (.lst (oth1 ++ oth2)) ∧ H' D = some (.lst []))
      ⟨s3.trans (Same.new nD), Same.new nD _ _ upd_same, upd_same⟩ (fun i H' _ q => SqL.of q.2.1) ?_ ?_⟩
    · rintro i y H' hy ⟨q1, q2, q3⟩
      have hm : y ∈ oth1 ++ oth2 := List.mem_of_getElem? hy
      have q : ∀ y ∈ oth1 ++ oth2, ∃ z : Str, y = .str z ∧ z.length ≤ 20 ∧ isName z = true := by
        intro y hy
        have : oth1 ++ oth2 = othL.map V.str := rfl
        rw [this] at hy
        obtain ⟨z, hz, rfl⟩ := List.mem_map.mp hy
        have q : ∀ z ∈ othL, z.length ≤ 20 ∧ isName z = true := by decide +kernel
        exact ⟨z, rfl, q z hz⟩
      obtain ⟨z, rfl, hl, hn⟩ := q y hm
      walk_at "rd"
      refine ⟨z, rfl, line_ge (by omega), ?_⟩
      rw [hn]
      walk_at "rd"
      exact ⟨q1, q2, q3⟩
    rintro H1 ⟨q1, q2, q3⟩
    walk_at "rd"
    refine ⟨Nat.zero_le _, fun p4 np4 => ne_empty (SqL.of (Same.new np4 _ _ q3)) (SqL.of upd_same) ?_⟩
    walk_at "rd"
    have s4 : Same H (upd H1 p4 (.lst [])) := q1.trans (Same.new np4)
    refine ⟨_, rfl, by decide, by decide, for_range (lo := 0) (n := 4) (fun i σ H' => ∃ v2 v3 v4 v5 v6 v7 v8, σ = [some (.ref a), some (.ref p3), v2, v3, v4, v5, v6, v7, v8] ∧ Same H H') ⟨_, _, _, _, _, _, _, rfl, s4⟩ ?_ ?_⟩
    · rintro i σ H2 hi ⟨v2, v3, v4, v5, v6, v7, v8, rfl, s5⟩
      walk_at "rd"
      refine ⟨a, ns, _, rfl, s5.seq hS, by omega, _, _, rfl, ?_⟩
      walk_at "rd"
      refine ⟨a, ns, _, rfl, s5.seq hS, by omega, _, _, rfl, _, _, rfl, mixed_nn _ _, mixed_nn _ _, fun z H3 hz s6 => ?_⟩
      walk_at "rd"
      refine ⟨fun σ H' => ∃ v7 v8, σ = [some (.ref a), some (.ref p3), v2, some (.int (0 + (i : Nat))), some (.int (mixed (cellAt ns (0 + (i : Nat))) (0 + (i : Nat)))), some (.str z), some (.bl (due0 z)), v7, v8] ∧ Same H H', ?_, ?_⟩
      · walk_at "rd"
        refine ⟨line_ge (by omega), ?_⟩
        unfold due0
        by_cases h1 : 1 ≤ z.length
        · rw [decide_eq_true (show (1 : Int) ≤ (z.length : Nat) by omega), decide_eq_true h1]
          refine iteT ⟨line_ge (by omega), ?_⟩
          by_cases h2 : z.length ≤ 8
          · rw [decide_eq_true (show ((z.length : Nat) : Int) ≤ 8 by omega), decide_eq_true h2]
            refine iteT ⟨rfl, fun q nq => ⟨q, keptV, rfl, .inl (SqL.of upd_same), rfl, flat_strs _, _, _, ⟨?_, rfl, rfl⟩, (s5.trans s6).trans (Same.new nq)⟩⟩
            unfold keptV
            rw [inV_strs]
            rfl
          · rw [decide_eq_false (show ¬ ((z.length : Nat) : Int) ≤ 8 by omega), decide_eq_false h2]
            exact iteF ⟨_, _, ⟨rfl, rfl, rfl⟩, s5.trans s6⟩
        · rw [decide_eq_false (show ¬ (1 : Int) ≤ (z.length : Nat) by omega), decide_eq_false h1]
          exact iteF ⟨_, _, ⟨rfl, rfl, rfl⟩, s5.trans s6⟩
      rintro σ H4 ⟨v7, v8, rfl, s7⟩
      refine ⟨_, rfl, z, rfl, for_str (x := z) (fun j σ H' => ∃ v7 v8, σ = [some (.ref a), some (.ref p3), v2, some (.int (0 + (i : Nat))), some (.int (mixed (cellAt ns (0 + (i : Nat))) (0 + (i : Nat)))), some (.str z), some (.bl (due0 z && (z.cps.toList.take j).all isLow)), v7, v8] ∧ Same H H') ⟨v7, v8, by simp, s7⟩ ?_ ?_⟩
      · rintro j c σ H5 hj ⟨v7, v8, rfl, s8⟩
        have hj' : z.cps.toList[j]? = some c := by simpa using hj
        walk_at "rd"
        refine ⟨c, rfl, ?_⟩
        rw [dec_signs, List.take_succ, hj', List.all_append]
        by_cases hc : isLow c = true
        · rw [hc]
          walk_at "rd"
          exact ⟨_, _, ⟨by simp [hc], rfl, rfl⟩, s8⟩
        · have hc' : isLow c = false := by simpa using hc
          rw [hc']
          walk_at "rd"
          exact ⟨_, _, ⟨by simp [hc'], rfl, rfl⟩, s8⟩
      · rintro σ H5 ⟨v7, v8, rfl, s8⟩
        have e : z.cps.toList.take z.cps.size = z.cps.toList := List.take_of_length_le (by simp)
        rw [e, due_name]
        walk_at "rd"
        refine ⟨z, rfl, line_ge (by omega), ?_⟩
        walk_at "rd"
        refine ⟨z, rfl, line_ge (by omega), ?_⟩
        walk_at "rd"
        exact ⟨_, _, _, _, _, _, _, ⟨rfl, rfl, rfl, rfl, rfl, rfl, rfl⟩, s8⟩
    · rintro σ H2 ⟨v2, v3, v4, v5, v6, v7, v8, rfl, s5⟩
      walk_at "rd"
      exact k _
end
theorem fin {P : Program} {w : World} {K : PySem.W.Frag} {mg : Str → Option Value} {h : Heap} {fa : Addr} (X : K.In h) (G : h.Ns mainGlobals mg) (hfa : mg "law" = some (.ref fa)) (T : Txt K mg) :
    ∃ fd : FuncData, (∀ (s : Shared) (u : Value), BindsTo s fd ⟨[u], []⟩ [("_law_script", u)]) ∧ ∀ base : Heap, K.In base → base.Ns mainGlobals mg → FnOk P w K mg base CX0 4 fa fd ["_law_script"] (spLaw K) :=
  law_end T.law hfa fun base f fd F => ok_law T F
end My
end
open PySem PySem.W PyProof.Rows
set_option maxRecDepth 100000 in
set_option maxHeartbeats 0 in
theorem PySem.Challenge.cw_rungworks_k01_names_holds : PySem.Challenge.rw_rungworks_k01_names.Holds := by
  w_on; o_law; k_head; (case hw => w_witness2)
  k_fill
  refine Ru.law_walk (l := PySem.Challenge.rw_rungworks_k01_names) (k := 4) (p := "_law_script") (cx := L2.CX0) ⟨rfl, by decide, by decide⟩ rfl rfl (fun w h Y => PySem.W.kIn_of Y) (fun _ _ _ _ z => z) ?F
  case F =>
    intro w mg fa h KX G hmg
    refine' My.fin KX G hmg ?T
    case T =>
      refine' ⟨⟨?h_names_d_is_word, ?h_names_d_is_name, ?h_names_g_SIGNS, ?h_names_g_MOST_SIGNS, ?h_names_g_KEPT, ?h_names_z_len⟩, ⟨?h_cells_d_cell_at, ?h_cells_d_mixed, ?h_cells_d_word, ?h_cells_z_len, ?h_cells_z_range⟩, ?h_d_kept, ?h_d_text, ?h_law, ?h_z_len, ?h_z_range, ?h_z_isinstance, ?h_z_bool⟩
      (case h_names_d_is_word => (refine' Ru.defAt_mk KX G ?a_h_names_d_is_word ?l_h_names_d_is_word ?c_h_names_d_is_word ?k_h_names_d_is_word ?b_h_names_d_is_word; (case a_h_names_d_is_word => k_is); (case l_h_names_d_is_word => k_is); (case c_h_names_d_is_word => k_is); (case k_h_names_d_is_word => k_is); (case b_h_names_d_is_word => exact fun us hl => match us, hl with | [_], _ => rfl)))
      (case h_names_d_is_name => (refine' Ru.defAt_mk KX G ?a_h_names_d_is_name ?l_h_names_d_is_name ?c_h_names_d_is_name ?k_h_names_d_is_name ?b_h_names_d_is_name; (case a_h_names_d_is_name => k_is); (case l_h_names_d_is_name => k_is); (case c_h_names_d_is_name => k_is); (case k_h_names_d_is_name => k_is); (case b_h_names_d_is_name => exact fun us hl => match us, hl with | [_], _ => rfl)))
      (case h_names_g_SIGNS => (refine' Ru.globC_mk KX G ?a_h_names_g_SIGNS ?r_h_names_g_SIGNS; (case a_h_names_g_SIGNS => k_is); (case r_h_names_g_SIGNS => exact ⟨_, rfl⟩)))
      (case h_names_g_MOST_SIGNS => (refine' Ru.globC_mk KX G ?a_h_names_g_MOST_SIGNS ?r_h_names_g_MOST_SIGNS; (case a_h_names_g_MOST_SIGNS => k_is); (case r_h_names_g_MOST_SIGNS => exact ⟨_, rfl⟩)))
      (case h_names_g_KEPT => (refine' Ru.globT_mk KX G ?a_h_names_g_KEPT ?l_h_names_g_KEPT ?s_h_names_g_KEPT ?v_h_names_g_KEPT; (case a_h_names_g_KEPT => k_is); (case l_h_names_g_KEPT => k_is); (case s_h_names_g_KEPT => exact Ru.line_ge (by decide)); (case v_h_names_g_KEPT => exact Ru.vals_of_B (by decide +kernel))))
      (case h_names_z_len => (exact PySem.W.mg_none_of KX G (by k_is)))
      (case h_cells_d_cell_at => (refine' Ru.defAt_mk KX G ?a_h_cells_d_cell_at ?l_h_cells_d_cell_at ?c_h_cells_d_cell_at ?k_h_cells_d_cell_at ?b_h_cells_d_cell_at; (case a_h_cells_d_cell_at => k_is); (case l_h_cells_d_cell_at => k_is); (case c_h_cells_d_cell_at => k_is); (case k_h_cells_d_cell_at => k_is); (case b_h_cells_d_cell_at => exact fun us hl => match us, hl with | [_, _], _ => rfl)))
      (case h_cells_d_mixed => (refine' Ru.defAt_mk KX G ?a_h_cells_d_mixed ?l_h_cells_d_mixed ?c_h_cells_d_mixed ?k_h_cells_d_mixed ?b_h_cells_d_mixed; (case a_h_cells_d_mixed => k_is); (case l_h_cells_d_mixed => k_is); (case c_h_cells_d_mixed => k_is); (case k_h_cells_d_mixed => k_is); (case b_h_cells_d_mixed => exact fun us hl => match us, hl with | [_, _], _ => rfl)))
      (case h_cells_d_word => (refine' Ru.defAt_mk KX G ?a_h_cells_d_word ?l_h_cells_d_word ?c_h_cells_d_word ?k_h_cells_d_word ?b_h_cells_d_word; (case a_h_cells_d_word => k_is); (case l_h_cells_d_word => k_is); (case c_h_cells_d_word => k_is); (case k_h_cells_d_word => k_is); (case b_h_cells_d_word => exact fun us hl => match us, hl with | [_, _], _ => rfl)))
      (case h_cells_z_len => (exact PySem.W.mg_none_of KX G (by k_is)))
      (case h_cells_z_range => (exact PySem.W.mg_none_of KX G (by k_is)))
      (case h_d_kept => (refine' Ru.defAt_mk KX G ?a_h_d_kept ?l_h_d_kept ?c_h_d_kept ?k_h_d_kept ?b_h_d_kept; (case a_h_d_kept => k_is); (case l_h_d_kept => k_is); (case c_h_d_kept => k_is); (case k_h_d_kept => k_is); (case b_h_d_kept => exact fun us hl => match us, hl with | [], _ => rfl)))
      (case h_d_text => (refine' Ru.defAt_mk KX G ?a_h_d_text ?l_h_d_text ?c_h_d_text ?k_h_d_text ?b_h_d_text; (case a_h_d_text => k_is); (case l_h_d_text => k_is); (case c_h_d_text => k_is); (case k_h_d_text => k_is); (case b_h_d_text => exact fun us hl => match us, hl with | [_, _], _ => rfl)))
      (case h_law => (refine' Ru.lawAt_mk KX G ?a_h_law ?l_h_law ?c_h_law ?k_h_law ?b_h_law; (case a_h_law => k_is); (case l_h_law => k_is); (case c_h_law => k_is); (case k_h_law => k_is); (case b_h_law => exact fun _ => rfl)))
      (case h_z_len => (exact PySem.W.mg_none_of KX G (by k_is)))
      (case h_z_range => (exact PySem.W.mg_none_of KX G (by k_is)))
      (case h_z_isinstance => (exact PySem.W.mg_none_of KX G (by k_is)))
      (case h_z_bool => (exact PySem.W.mg_none_of KX G (by k_is)))
#print axioms PySem.Challenge.cw_rungworks_k01_names_holds
