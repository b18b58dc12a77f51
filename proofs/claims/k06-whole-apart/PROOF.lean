import PyProof.Rows.All
import Wide.All
import OpenK.AllK
import Wide.FinOn
import HandS.ForMost
import HandS.Codes
import HandS.Style
import HandS.IsInst
import KE.KDictSum
import HandS.Conv
import HandS.More
import HandS.DictComp
import PySem.Challenge.RW_rungworks_k06_whole_apart
set_option Elab.async false
set_option linter.all false
set_option maxRecDepth 100000
set_option maxHeartbeats 2000000
namespace Ru
open PySem PySem.Spec PyProof.Rows L2

/-! ## a def of the module as a caller sees it -/
/-- the def called x is the module's, with body st -/
structure DefAt (K : PySem.W.Frag) (mg : Str → Option Value) (x : Str) (st : Stmt) (ps : List Str) : Prop where
  ex : ∃ f fd, mg x = some (.ref f) ∧ Fun K x x st f fd ∧ Binds K fd ps []
/-- the def called x keeps the promise sp -/
structure FnAt (P : Program) (w : World) (K : PySem.W.Frag) (mg : Str → Option Value) (base : Heap) (cx : CXT) (x : Str) (k : Nat) (ps : List Str) (sp : Sp) : Prop where
  ex : ∃ f fd, mg x = some (.ref f) ∧ PySem.W.keepIn K (.ref f) = true ∧ Binds K fd ps [] ∧ FnOk P w K mg base cx k f fd ps sp
theorem FnAt.mono {P : Program} {w : World} {K : PySem.W.Frag} {mg : Str → Option Value} {base : Heap} {cx : CXT} {x : Str} {j k : Nat} {ps : List Str} {sp : Sp} (F : FnAt P w K mg base cx x j ps sp) (h : j ≤ k) : FnAt P w K mg base cx x k ps sp := by
  obtain ⟨f, fd, h1, h2, h3, h4⟩ := F.ex
  exact ⟨f, fd, h1, h2, h3, h4.mono h⟩
theorem FnAt.imp {P : Program} {w : World} {K : PySem.W.Frag} {mg : Str → Option Value} {base : Heap} {cx : CXT} {x : Str} {k : Nat} {ps : List Str} {sp sp' : Sp} (F : FnAt P w K mg base cx x k ps sp) (h : ∀ vs H Q E, sp' vs H Q E → sp vs H Q E) : FnAt P w K mg base cx x k ps sp' := by
  obtain ⟨f, fd, h1, h2, h3, h4⟩ := F.ex
  exact ⟨f, fd, h1, h2, h3, h4.imp h⟩
section
variable {P : Program} {w : World} {K : PySem.W.Frag} {mg : Str → Option Value} {base : Heap}
theorem fnAt_ok {x : Str} {st : Stmt} {N ps : List Str} {k : Nat} {sp : Sp} (D : DefAt K mg x st ps) (S : FnScope N ps (defScope st)) (len : ∀ vs H Q E, sp vs H Q E → vs.length = ps.length)
    (hbody : ∀ (f : Addr) (cdv : Value) (A : Around) (outer : List Env) (s : Shared) (H : Hp) (vs : List V) (Q : VK) (E : XK), Room k (A.deeper (envOfC x (defScope st) s.heap.objs.size f cdv)) → sp vs H Q E →
      ∃ t, PSs (cxOf CX0 P w K mg base N x (defScope st) f cdv A outer s H E).nox (defBody st) t ∧ t { nx := fun _ H' => Q .non H', rt := Q } (start N vs) H) : FnAt P w K mg base CX0 x (k + 1) ps sp := by
  obtain ⟨f, fd, h1, h2, h3⟩ := D.ex
  exact ⟨f, fd, h1, h2.kp, h3, h2.ok S len (hbody f)⟩
theorem defAt_mk {h : Heap} {x : Str} {st : Stmt} {ps : List Str} {f : Addr} {oc : Value} {od an : Option Addr} {osl : Array (Option Value)} {kV doc pm cdv ct : Value} (X : K.In h) (G : h.Ns mainGlobals mg)
    (a : PySem.W.nsIn K mainGlobals x = some (some (.ref f))) (l : K.lookup f = some ⟨oc, od, .func (PySem.W.fnOf x x (defArgs st) (defBody st) (defScope st) .none kV doc pm an cdv ct), osl⟩)
    (c : PySem.W.codeIn K cdv x = true) (k : PySem.W.keepIn K (.ref f) = true)
    (b : ∀ us : List Value, us.length = ps.length → bindArgs (PySem.W.fnOf x x (defArgs st) (defBody st) (defScope st) .none kV doc pm an cdv ct) ⟨us, []⟩ = pure (ps.zip us)) : DefAt K mg x st ps :=
  ⟨f, _, PySem.W.mg_of X G a, fun_mk l c k, .all b⟩
end
section
variable {X : Cx} {cx : CXT} {j k : Nat} {ps : List Str} {sp : Sp} {E : XK} {x : Str} {p pos : Pos} {e : Expr} {es : List Expr} {t : TA}
theorem pe_callF (F : FnAt X.prog X.w X.K X.mg X.base cx x k ps sp) (hr : Room j X.A) (hx : Passes cx X E) (ha : PA X (e :: es) t) (hj : k ≤ j := by decide) (hg : Gl X x := by rfl)
    (hdb : (x == ("__debug__" : Str)) = false := by decide) (he : starEach (e :: es) X.env = (false, eval e X.env) :: starEach es X.env := by rfl) (hpl : (backTo pos (starEach es X.env)).any (·.1) = false := by rfl) :
    PE X (.Call (.Name x p) (e :: es) [] pos) (tCall sp [] E t) := by
  obtain ⟨f, fd, h1, h2, h3, h4⟩ := F.ex
  exact pe_call h4 (hr.mono hj) hg h1 h2 h3 .nil hx ha hdb he hpl
theorem pe_callF0 (F : FnAt X.prog X.w X.K X.mg X.base cx x k ps sp) (hr : Room j X.A) (hx : Passes cx X E) (hj : k ≤ j := by decide) (hg : Gl X x := by rfl)
    (hdb : (x == ("__debug__" : Str)) = false := by decide) : PE X (.Call (.Name x p) [] [] pos) (tCall sp [] E tNil) := by
  obtain ⟨f, fd, h1, h2, h3, h4⟩ := F.ex
  exact pe_call0 h4 (hr.mono hj) hg h1 h2 h3 .nil hx hdb
end

/-! ## constants of the module -/
/-- the module's name x holds the value v -/
def GlobC (mg : Str → Option Value) (x : Str) (v : V) : Prop := ∃ u, mg x = some u ∧ RelV v u
theorem pe_gc {X : Cx} {x : Str} {v : V} {pos : Pos} (h : GlobC X.mg x v) (hg : Gl X x := by rfl) (hd : (x == ("__debug__" : Str)) = false := by decide) : PE X (.Name x pos) (tC v) := by
  obtain ⟨u, h1, h2⟩ := h
  exact pe_glob hg h1 h2 hd
/-- a tuple that stands wherever one looks -/
def TupK (K : PySem.W.Frag) (a : Addr) (xs : List V) : Prop := ∀ H, SqT K H a xs
def GlobT (K : PySem.W.Frag) (mg : Str → Option Value) (x : Str) (xs : List V) : Prop := ∃ a, mg x = some (.ref a) ∧ TupK K a xs
def tGT (K : PySem.W.Frag) (xs : List V) : TE := fun _ H Q => ∀ a, TupK K a xs → Q (.ref a) H
theorem pe_gt {X : Cx} {x : Str} {xs : List V} {pos : Pos} (h : GlobT X.K X.mg x xs) (hg : Gl X x := by rfl) (hd : (x == ("__debug__" : Str)) = false := by decide) : PE X (.Name x pos) (tGT X.K xs) := by
  obtain ⟨a, h1, h2⟩ := h
  exact ⟨fun pins s σ H Q I q => (pe_glob (v := .ref a) hg h1 rfl hd).run pins s σ H Q I (q a h2)⟩
/-- what a written tuple's items are -/
def valsB : List V → List Value → Bool
  | [], [] => true
  | x :: xs, u :: us => (absV u == some x) && valsB xs us
  | _, _ => false
theorem relV_of_abs {x : V} {u : Value} (h : absV u = some x) : RelV x u := by
  cases u <;> simp [absV] at h <;> subst h <;> first | rfl | exact ⟨_, rfl⟩
theorem vals_of_B : ∀ {xs : List V} {us : List Value}, valsB xs us = true → Vals xs us
  | [], [], _ => .nil
  | x :: xs, u :: us, h => by
    unfold valsB at h
    rw [Bool.and_eq_true] at h
    exact .cons (relV_of_abs (by simpa using h.1)) (vals_of_B h.2)
  | [], _ :: _, h => by simp [valsB] at h
  | _ :: _, [], h => by simp [valsB] at h
theorem globT_mk {K : PySem.W.Frag} {mg : Str → Option Value} {h : Heap} {x : Str} {a : Addr} {n : Nat} {its : Array Value} {od : Option Addr} {sl : Array (Option Value)} {xs : List V} (X : K.In h) (G : h.Ns mainGlobals mg)
    (ha : PySem.W.nsIn K mainGlobals x = some (some (.ref a))) (l : K.lookup a = some ⟨.type "tuple", od, .seq its n, sl⟩) (hs : its.size ≤ sizeLine) (hv : Vals xs its.toList) : GlobT K mg x xs :=
  ⟨a, PySem.W.mg_of X G ha, fun _ => .inr ⟨_, its, n, l, rfl, rfl, hs, hv⟩⟩
theorem globC_mk {K : PySem.W.Frag} {mg : Str → Option Value} {h : Heap} {x : Str} {u : Value} {v : V} (X : K.In h) (G : h.Ns mainGlobals mg) (ha : PySem.W.nsIn K mainGlobals x = some (some u)) (r : RelV v u) : GlobC mg x v :=
  ⟨u, PySem.W.mg_of X G ha, r⟩

theorem pc_inK {X : Cx} {x : Str} {xs : List V} {a : Expr} {ta : TE} {pos : Pos} (h : GlobT X.K X.mg x xs) (ha : PE X a ta) (hg : Gl X x := by rfl) (hd : (x == ("__debug__" : Str)) = false := by decide) :
    PC X .In a (.Name x pos) (fun σ H Q => ta σ H fun v H1 => flatV v = true ∧ xs.all flatV = true ∧ Q (.bl (inV v xs)) H1) := by
  obtain ⟨b, h1, h2⟩ := h
  refine ⟨fun pins s σ H Q I q => ?_⟩
  refine bin (R := fun v u H2 => u = .ref b ∧ flatV v = true ∧ xs.all flatV = true ∧ Q (.bl (inV v xs)) H2) ha (pe_glob (v := .ref b) hg h1 rfl hd) I ?_ fun v u s2 x y H2 I2 rx ry q => ?_
  · refine (show ta σ H fun v H1 => (V.ref b = .ref b ∧ flatV v = true ∧ xs.all flatV = true ∧ Q (.bl (inV v xs)) H1) from ?_)
    have : (fun v H1 => flatV v = true ∧ xs.all flatV = true ∧ Q (.bl (inV v xs)) H1) = (fun (v : V) (H1 : Hp) => (V.ref b = .ref b ∧ flatV v = true ∧ xs.all flatV = true ∧ Q (.bl (inV v xs)) H1)) := by
      funext v H1
      simp
    rw [← this]
    exact q
  · obtain ⟨rfl, q1, q2, q3⟩ := q
    exact op_in_seq pins s2 σ H2 _ _ _ _ Q I2 rx ry ⟨b, xs, rfl, .inr (h2 H2), q1, q2, q3⟩
theorem pc_notInK {X : Cx} {x : Str} {xs : List V} {a : Expr} {ta : TE} {pos : Pos} (h : GlobT X.K X.mg x xs) (ha : PE X a ta) (hg : Gl X x := by rfl) (hd : (x == ("__debug__" : Str)) = false := by decide) :
    PC X .NotIn a (.Name x pos) (fun σ H Q => ta σ H fun v H1 => flatV v = true ∧ xs.all flatV = true ∧ Q (.bl (!inV v xs)) H1) := by
  obtain ⟨b, h1, h2⟩ := h
  refine ⟨fun pins s σ H Q I q => ?_⟩
  refine bin (R := fun v u H2 => u = .ref b ∧ flatV v = true ∧ xs.all flatV = true ∧ Q (.bl (!inV v xs)) H2) ha (pe_glob (v := .ref b) hg h1 rfl hd) I ?_ fun v u s2 x y H2 I2 rx ry q => ?_
  · refine (show ta σ H fun v H1 => (V.ref b = .ref b ∧ flatV v = true ∧ xs.all flatV = true ∧ Q (.bl (!inV v xs)) H1) from ?_)
    have : (fun v H1 => flatV v = true ∧ xs.all flatV = true ∧ Q (.bl (!inV v xs)) H1) = (fun (v : V) (H1 : Hp) => (V.ref b = .ref b ∧ flatV v = true ∧ xs.all flatV = true ∧ Q (.bl (!inV v xs)) H1)) := by
      funext v H1
      simp
    rw [← this]
    exact q
  · obtain ⟨rfl, q1, q2, q3⟩ := q
    exact op_notIn_seq pins s2 σ H2 _ _ _ _ Q I2 rx ry ⟨b, xs, rfl, .inr (h2 H2), q1, q2, q3⟩

/-! ## texts as lists of code points -/
def mkS (l : List Nat) : Str := ⟨l.toArray⟩
theorem mkS_len (l : List Nat) : (mkS l).length = l.length := by simp [mkS, Str.length]
theorem mkS_tl (z : Str) : mkS z.cps.toList = z := by simp [mkS]
theorem tl_mkS (l : List Nat) : (mkS l).cps.toList = l := by simp [mkS]
theorem mkS_inj {a b : List Nat} (h : mkS a = mkS b) : a = b := by rw [← tl_mkS a, ← tl_mkS b, h]
theorem mkS_app (a b : List Nat) : mkS a ++ mkS b = mkS (a ++ b) := by
  show Str.append _ _ = _
  simp [Str.append, mkS]
theorem empty_mk : ("" : Str) = mkS [] := by decide +kernel
theorem mkS_one (c : Nat) : (⟨#[c]⟩ : Str) = mkS [c] := rfl
theorem cutS_to (l : List Nat) (n : Nat) : cutS (mkS l) none (some (n : Int)) = mkS (l.take n) := by
  unfold cutS
  rw [HT.sIx_none, HT.sIx_nat, mkS_len, tl_mkS]
  show mkS _ = _
  congr 1
  rw [List.drop_zero, Nat.sub_zero]
  by_cases h : n ≤ l.length
  · rw [Nat.min_eq_left h]
  · rw [Nat.min_eq_right (by omega), List.take_of_length_le (Nat.le_refl _), List.take_of_length_le (by omega)]
theorem cutS_from (l : List Nat) (n : Nat) : cutS (mkS l) (some (n : Int)) none = mkS (l.drop n) := by
  unfold cutS
  rw [HT.sIx_none, HT.sIx_nat, mkS_len, tl_mkS]
  show mkS _ = _
  congr 1
  by_cases h : n ≤ l.length
  · rw [Nat.min_eq_left h, List.take_of_length_le (by rw [List.length_drop]; omega)]
  · rw [Nat.min_eq_right (by omega), List.drop_of_length_le (Nat.le_refl _), List.drop_of_length_le (by omega)]
    simp
theorem cutS_le (z : Str) (lo hi : Option Int) : (cutS z lo hi).length ≤ z.length := by
  unfold cutS Str.length
  simp only [List.size_toArray, List.length_take, List.length_drop, Array.length_toList]
  omega
theorem len_app (x y : Str) : (x ++ y).length = x.length + y.length := strLen_append x y
/-- the item at an int's place -/
theorem atI_int {α : Type} {xs : List α} {i : Int} {v : α} (h0 : 0 ≤ i) (h : xs[i.toNat]? = some v) : atI xs i = some v := by
  obtain ⟨n, rfl⟩ := Int.eq_ofNat_of_zero_le h0
  exact atI_nat h

theorem atI_ex {α : Type} {xs : List α} {i : Int} (h0 : 0 ≤ i) (h : i < xs.length) : ∃ v, v ∈ xs ∧ atI xs i = some v := by
  have hn : i.toNat < xs.length := by omega
  exact ⟨xs[i.toNat], List.getElem_mem hn, atI_int h0 (List.getElem?_eq_getElem hn)⟩
theorem line_ge {n : Nat} (h : n ≤ 1000000) : n ≤ sizeLine := by rw [sizeLine_eq]; omega
/-- the law's def, and how its one argument binds -/
structure LawAt (K : PySem.W.Frag) (mg : Str → Option Value) (st : Stmt) (p : Str) : Prop where
  ex : ∃ f fd, mg "law" = some (.ref f) ∧ Fun K "law" "law" st f fd ∧ ∀ u : Value, bindArgs fd ⟨[u], []⟩ = pure [(p, u)]
theorem lawAt_mk {K : PySem.W.Frag} {mg : Str → Option Value} {h : Heap} {st : Stmt} {p : Str} {f : Addr} {oc : Value} {od an : Option Addr} {osl : Array (Option Value)} {kV doc pm cdv ct : Value} (X : K.In h) (G : h.Ns mainGlobals mg)
    (a : PySem.W.nsIn K mainGlobals "law" = some (some (.ref f))) (l : K.lookup f = some ⟨oc, od, .func (PySem.W.fnOf "law" "law" (defArgs st) (defBody st) (defScope st) .none kV doc pm an cdv ct), osl⟩)
    (c : PySem.W.codeIn K cdv "law" = true) (k : PySem.W.keepIn K (.ref f) = true)
    (b : ∀ u : Value, bindArgs (PySem.W.fnOf "law" "law" (defArgs st) (defBody st) (defScope st) .none kV doc pm an cdv ct) ⟨[u], []⟩ = pure [(p, u)]) : LawAt K mg st p :=
  ⟨f, _, PySem.W.mg_of X G a, fun_mk l c k, b⟩
theorem law_end {prog : Program} {w : World} {K : PySem.W.Frag} {mg : Str → Option Value} {st : Stmt} {p : Str} {fa : Addr} {cx : CXT} {k : Nat} {sp : Sp} (L : LawAt K mg st p) (hfa : mg "law" = some (.ref fa))
    (ok : ∀ (base : Heap) (f : Addr) (fd : FuncData), Fun K "law" "law" st f fd → FnOk prog w K mg base cx k f fd [p] sp) :
    ∃ fd : FuncData, (∀ (s : Shared) (u : Value), BindsTo s fd ⟨[u], []⟩ [(p, u)]) ∧ ∀ base : Heap, K.In base → base.Ns mainGlobals mg → FnOk prog w K mg base cx k fa fd [p] sp := by
  obtain ⟨f, fd, h1, h2, h3⟩ := L.ex
  have e : f = fa := by
    have := h1.symm.trans hfa
    injection this with e
    injection e
  subst e
  exact ⟨fd, fun s u => .of_eq (h3 u), fun base _ _ => ok base f fd h2⟩
/-- what is promised of a law: True, whatever stands -/
def spLaw (K : PySem.W.Frag) : Sp := fun vs H Q _ => ∃ (a : Addr) (ns : List Int), vs = [.ref a] ∧ SqL K H a (ns.map V.int) ∧ ns.length ≤ 63 ∧ ∀ H', Q (.bl true) H'
theorem law_walk {l : PySem.W.OpenLaw} {q : Program} {loose : List Str} {XP : (Str → Option Value) → Heap → Prop} {YP : World → Heap → Prop} {d : DefRec} {K : Params → PySem.W.Frag} {cx : CXT} {k : Nat} {p : Str} (hr : Room k callerA) (hn : l.most = some 63) (hdf : d.params.defaults = [])
    (hY : ∀ (w : World) (h : Heap), YP w h → (K w.params).In h) (hcx : ∀ (H : Hp) (s : Shared) (e : Value) (s' : Shared), cx [] H s (fun _ _ _ => False) e s' → False)
    (F : ∀ (w : World) (mg : Str → Option Value) (fa : Addr) (h : Heap), (K w.params).In h → h.Ns mainGlobals mg → mg d.name = some (.ref fa) →
      ∃ fd : FuncData, (∀ (s : Shared) (u : Value), BindsTo s fd ⟨[u], []⟩ [(p, u)]) ∧ ∀ base : Heap, (K w.params).In base → base.Ns mainGlobals mg → FnOk l.prog w (K w.params) mg base cx k fa fd [p] (spLaw (K w.params))) :
    PySem.W.WalkO q loose XP YP l.row.toRowW d [] (fun f vs => PySem.call f vs) :=
  L2.walk_of (n := 63) (k := k) (x := p) (CX := fun _ => cx) (sp := fun w => spLaw (K w.params)) hn (by decide) hdf hr hY F (fun _ _ a ns hl _ hS => ⟨a, ns, rfl, hS, hl, fun _ => rfl⟩) fun _ H s e s' z => hcx H s e s' z

/-! ## isinstance of flat values and bool, int, str -/
def isBlV : V → Bool
  | .bl _ => true
  | _ => false
def isIntV : V → Bool
  | .bl _ => true
  | .int _ => true
  | _ => false
def isStrV : V → Bool
  | .str _ => true
  | _ => false
theorem scal_ii {a b : Int} : scal (.int a) (.int b) = true := rfl
theorem scal_bb {a b : Bool} : scal (.bl a) (.bl b) = true := rfl
theorem scal_ss {a b : Str} : scal (.str a) (.str b) = true := rfl
theorem scal_sb {a : Str} {b : Bool} : scal (.str a) (.bl b) = true := rfl
theorem scal_bs {a : Str} {b : Bool} : scal (.bl b) (.str a) = true := rfl
theorem flat_s {z : Str} : flatV (.str z) = true := rfl
theorem flat_i {z : Int} : flatV (.int z) = true := rfl
theorem flat_b {z : Bool} : flatV (.bl z) = true := rfl
theorem flat_n : flatV .non = true := rfl
def rIsF (n : String) (f : V → Bool) : List V → Hp → VK → Prop := fun xs H Q => ∃ x, xs = [x, .ty n] ∧ flatV x = true ∧ Q (.bl (f x)) H
theorem call_isF {X : Cx} {n : String} {f : V → Bool} (hn : kitB "NoneType" n = some (f .non)) (hb : ∀ b, kitB "bool" n = some (f (.bl b))) (hi : ∀ i, kitB "int" n = some (f (.int i))) (hs : ∀ z, kitB "str" n = some (f (.str z))) :
    CallR X (.builtin "isinstance") (rIsF n f) := by
  intro pins s σ H xs us Q I r h
  obtain ⟨x, rfl, fx, q⟩ := h
  refine call_isi pins s σ H _ us Q I r ?_
  cases x with
  | non => exact ⟨_, _, _, _, _, rfl, .ty n, .base (.non), kit_ty hn, q⟩
  | bl b => exact ⟨_, _, _, _, _, rfl, .ty n, .base (.bl b), kit_ty (hb b), q⟩
  | int i => exact ⟨_, _, _, _, _, rfl, .ty n, .base (.int i), kit_ty (hi i), q⟩
  | str z => exact ⟨_, _, _, _, _, rfl, .ty n, .base (.str z), kit_ty (hs z), q⟩
  | byt b => cases fx
  | flt b => cases fx
  | ref a => cases fx
  | ty a => cases fx
theorem call_isBool {X : Cx} : CallR X (.builtin "isinstance") (rIsF "bool" isBlV) :=
  call_isF (by decide +kernel) (fun _ => (by decide +kernel : kitB "bool" "bool" = some true)) (fun _ => (by decide +kernel : kitB "int" "bool" = some false)) fun _ => (by decide +kernel : kitB "str" "bool" = some false)
theorem call_isInt {X : Cx} : CallR X (.builtin "isinstance") (rIsF "int" isIntV) :=
  call_isF (by decide +kernel) (fun _ => (by decide +kernel : kitB "bool" "int" = some true)) (fun _ => (by decide +kernel : kitB "int" "int" = some true)) fun _ => (by decide +kernel : kitB "str" "int" = some false)

theorem Same.new {H : Hp} {p : Addr} {o : HO} (h : H p = none) : Same H (upd H p o) := fun b u e => by
  rw [upd_ne (ne_of_none e h)]
  exact e
/-- a store to what H does not know -/
theorem Same.mut {H H' : Hp} {p : Addr} {o : HO} (s : Same H H') (h : H p = none) : Same H (upd H' p o) := fun b u e => by
  rw [upd_ne (ne_of_none e h)]
  exact s b u e
theorem Same.seqT {K : PySem.W.Frag} {H H' : Hp} {a : Addr} {xs : List V} (e : Same H H') (h : SqT K H a xs) : SqT K H' a xs := by
  rcases h with (h | ⟨o, h⟩) | h
  · exact .inl (.inl (e _ _ h))
  · exact .inl (.inr ⟨o, e _ _ h⟩)
  · exact .inr h
/-- [..] == [] of an empty list -/
theorem ne_empty {K : PySem.W.Frag} {H : Hp} {a b : Addr} {Q : VK} (ha : SqL K H a []) (hb : SqL K H b []) (q : Q (.bl false) H) : rNeD K (.ref a) (.ref b) H Q :=
  ⟨.list [], .list [], .lst ha .nil, .lst hb .nil, by decide +kernel, by decide +kernel, q⟩

/-! ## one's own short ways -/
abbrev St : Type := L2.St
theorem exw {α : Type} {P : α → Prop} {a : α} (h : P a) : ∃ x, P x := ⟨a, h⟩
/-- for over a text that the body leaves as it is -/
theorem for_str {x : Str} {g : TG} {tb : TS} {D : Ends} {σ : St} {H : Hp} (Pv : Nat → St → Hp → Prop) (h0 : Pv 0 σ H)
    (hs : ∀ i c σ H, x.cps[i]? = some c → Pv i σ H → g (.str ⟨#[c]⟩) σ H fun σ2 H2 => tb { D with nx := Pv (i + 1), ct := Pv (i + 1), bk := D.nx } σ2 H2) (hd : ∀ σ H, Pv x.cps.size σ H → D.nx σ H) :
    ∃ W : Nat → Nat → St → Hp → Prop, (∃ m, W 0 m σ H) ∧ ∀ i m σ H, W i m σ H →
      ((Its x).stop i H ∧ D.nx σ H) ∨ ((Its x).go i H ∧ ∃ N : St → Hp → Prop, (∀ σ' H', N σ' H' → ∃ m', m' < m ∧ W (i + 1) m' σ' H') ∧ ∀ v H', (Its x).yld i H v H' → g v σ H' fun σ2 H2 => tb { D with nx := N, ct := N, bk := D.nx } σ2 H2) := by
  refine ⟨fun i m σ H => m = x.cps.size - i ∧ i ≤ x.cps.size ∧ Pv i σ H, ⟨x.cps.size, by simp, Nat.zero_le _, h0⟩, ?_⟩
  rintro i m σ H ⟨rfl, hi, p⟩
  by_cases hlt : i < x.cps.size
  · refine .inr ⟨hlt, Pv (i + 1), fun σ' H' p' => ⟨x.cps.size - (i + 1), by omega, rfl, hlt, p'⟩, fun v H' y => ?_⟩
    obtain ⟨e, c, hc, y⟩ := y
    subst e y
    exact hs i c σ _ hc p
  · have e : i = x.cps.size := by omega
    subst e
    exact .inl ⟨Nat.le_refl _, hd σ H p⟩
theorem gcons_eq {t : TG} {u : TGs} {v : V} {r : List V} {σ : L2.St} {H : Hp} {Q : L2.St → Hp → Prop} : gCons t u (v :: r) σ H Q ↔ t v σ H fun σ' H' => u r σ' H' Q :=
  ⟨fun ⟨_, _, e, q⟩ => by cases e; exact q, fun q => ⟨v, r, rfl, q⟩⟩
theorem gnil_eq {σ : L2.St} {H : Hp} {Q : L2.St → Hp → Prop} : gNil [] σ H Q ↔ Q σ H := ⟨fun ⟨_, q⟩ => q, fun q => ⟨rfl, q⟩⟩
theorem cxOf_K {CX : CXT} {P : Program} {w : World} {K : PySem.W.Frag} {mg : Str → Option Value} {base : Heap} {N : List Str} {q : Str} {sc : Scope} {f : Addr} {cd : Value} {A : Around} {outer : List Env} {s : Shared} {H : Hp} {E : XK} :
    (cxOf CX P w K mg base N q sc f cd A outer s H E).K = K := rfl
end Ru

set_option Elab.async false
set_option linter.all false
set_option maxRecDepth 100000
set_option maxHeartbeats 2000000
/-! objects: methods by the receiver's class, tuple(d.keys()), xs != [] of any list -/
namespace Ru
open PySem PySem.Spec PyProof.Rows L2
abbrev St' : Type := L2.St

/-! ## methods by class -/
structure DispAt (P : Program) (w : World) (K : PySem.W.Frag) (mg : Str → Option Value) (base : Heap) (cx : CXT) (T : Addr → Prop) (m : Str) (k : Nat) (ps : List Str) (sp : Addr → Sp) : Prop where
  ex : ∀ C, T C → ∃ f fd, Cls K C ∧ Meth K C m f ∧ Binds K fd ps [] ∧ FnOk P w K mg base cx k f fd ps (sp C)
theorem DispAt.mono {P : Program} {w : World} {K : PySem.W.Frag} {mg : Str → Option Value} {base : Heap} {cx : CXT} {T : Addr → Prop} {m : Str} {j k : Nat} {ps : List Str} {sp : Addr → Sp} (D : DispAt P w K mg base cx T m j ps sp) (h : j ≤ k) : DispAt P w K mg base cx T m k ps sp :=
  ⟨fun C t => let ⟨f, fd, h1, h2, h3, h4⟩ := D.ex C t; ⟨f, fd, h1, h2, h3, h4.mono h⟩⟩
theorem DispAt.imp {P : Program} {w : World} {K : PySem.W.Frag} {mg : Str → Option Value} {base : Heap} {cx : CXT} {T : Addr → Prop} {m : Str} {k : Nat} {ps : List Str} {sp sp' : Addr → Sp} (D : DispAt P w K mg base cx T m k ps sp) (h : ∀ C vs H Q E, T C → sp' C vs H Q E → sp C vs H Q E) : DispAt P w K mg base cx T m k ps sp' :=
  ⟨fun C t => let ⟨f, fd, h1, h2, h3, h4⟩ := D.ex C t; ⟨f, fd, h1, h2, h3, h4.imp fun vs H Q E => h C vs H Q E t⟩⟩
/-- o.m(..), o an instance of one of the classes T -/
def tMethD (T : Addr → Prop) (m : Str) (sp : Addr → Sp) (E : XK) (ta : TE) (t : TA) : TE := fun σ H Q => ta σ H fun x H1 => ∃ a C dx fs, x = .ref a ∧ H1 a = some (.ins C dx fs) ∧ T C ∧ fs.lookup m = none ∧
  t σ H1 fun vs H2 => sp C (x :: vs) H2 Q E
section
variable {X : Cx} {cx : CXT} {j k : Nat} {ps : List Str} {sp : Addr → Sp} {E : XK} {T : Addr → Prop} {m : Str} {p pos apos : Pos} {e o : Expr} {es : List Expr} {ta : TE} {t : TA}
theorem pe_methD {pl : Sem Bool} (D : DispAt X.prog X.w X.K X.mg X.base cx T m k ps sp) (hr : Room j X.A) (hx : Passes cx X E) (he : PE X o ta) (ha : PA X (e :: es) t) (hj : k ≤ j := by decide)
    (hst : starEach (e :: es) X.env = (false, eval e X.env) :: starEach es X.env := by rfl) (hpl : (backTo pos (starEach es X.env)).any (·.1) = false := by rfl)
    (ht : eval (.Call (.Attribute o m apos) (e :: es) [] pos) X.env = (do
      let ov ← eval o X.env
      standAt apos.atName
      let (f, first) ← holding [ov] (getMethod ov m pl)
      callWith pos f first (backTo pos (starEach (e :: es) X.env)) (backToKw pos (keywordEach [] X.env))) := by rfl) :
    PE X (.Call (.Attribute o m apos) (e :: es) [] pos) (tMethD T m sp E ta t) := by
  refine ⟨fun pins s σ H Q I h => ?_⟩
  refine PySem.W.methodCall_KW (pl := pl) (thn (he.run pins s σ H _ I h) fun u s1 ⟨x, H1, I1, rx, a, C, dx, fs, ex, ea, tc, l, q⟩ => ?_) ht
  subst ex
  obtain rfl : u = Value.ref a := rx
  obtain ⟨f, fd, c, hm, hb, F⟩ := D.ex C tc
  refine getmeth_ok I1 ea c hm l ?_
  refine PySem.W.callWith_K (first := [.ref a]) (h₀ := X.base) I.ok.mod.kin hm.kp (thn (ha.run pos pins s1 σ H1 _ I1 q) fun us s2 ⟨vs, H2, I2, r, q2⟩ => ⟨I2.kIn, ?_⟩) hst hpl
  exact run_fn (us := .ref a :: us) (vs := .ref a :: vs) (dvs := []) (ds := []) F (hr.mono hj) hb .nil hx I2 (.cons rfl r) (by rw [List.append_nil]; exact q2)
theorem pe_methD0 {pl : Sem Bool} (D : DispAt X.prog X.w X.K X.mg X.base cx T m k ps sp) (hr : Room j X.A) (hx : Passes cx X E) (he : PE X o ta) (hj : k ≤ j := by decide)
    (ht : eval (.Call (.Attribute o m apos) [] [] pos) X.env = (do
      let ov ← eval o X.env
      standAt apos.atName
      let (f, first) ← holding [ov] (getMethod ov m pl)
      callWith pos f first (backTo pos (starEach [] X.env)) (backToKw pos (keywordEach [] X.env))) := by rfl) :
    PE X (.Call (.Attribute o m apos) [] [] pos) (tMethD T m sp E ta tNil) := by
  refine ⟨fun pins s σ H Q I h => ?_⟩
  refine PySem.W.methodCall_KW (pl := pl) (thn (he.run pins s σ H _ I h) fun u s1 ⟨x, H1, I1, rx, a, C, dx, fs, ex, ea, tc, l, q⟩ => ?_) ht
  subst ex
  obtain rfl : u = Value.ref a := rx
  obtain ⟨f, fd, c, hm, hb, F⟩ := D.ex C tc
  refine getmeth_ok I1 ea c hm l ?_
  refine PySem.W.callWith_K0 (first := [.ref a]) I1.kIn hm.kp ?_
  exact run_fn (us := [.ref a]) (vs := [.ref a]) (dvs := []) (ds := []) F (hr.mono hj) hb .nil hx I1 (.cons rfl .nil) q
end
/-- a method of the class at C, as the text has it -/
structure MethAt (K : PySem.W.Frag) (C : Addr) (m qual : Str) (st : Stmt) (ps : List Str) : Prop where
  ex : ∃ f fd, Meth K C m f ∧ Fun K m qual st f fd ∧ Binds K fd ps []
theorem methAt_mk {K : PySem.W.Frag} {C : Addr} {m qual : Str} {st : Stmt} {ps : List Str} {f : Addr} {oc : Value} {od an : Option Addr} {osl : Array (Option Value)} {kV doc pm cdv ct : Value}
    (a : PySem.W.findIn K (.ref C) m = some (some (.ref f))) (i : PySem.W.isFn K (.ref f) = true) (l : K.lookup f = some ⟨oc, od, .func (PySem.W.fnOf m qual (defArgs st) (defBody st) (defScope st) .none kV doc pm an cdv ct), osl⟩)
    (c : PySem.W.codeIn K cdv qual = true) (k : PySem.W.keepIn K (.ref f) = true)
    (b : ∀ us : List Value, us.length = ps.length → bindArgs (PySem.W.fnOf m qual (defArgs st) (defBody st) (defScope st) .none kV doc pm an cdv ct) ⟨us, []⟩ = pure (ps.zip us)) : MethAt K C m qual st ps :=
  ⟨f, _, ⟨a, i, k⟩, fun_mk l c k, .all b⟩
theorem methAt_ok {P : Program} {w : World} {K : PySem.W.Frag} {mg : Str → Option Value} {base : Heap} {C : Addr} {m qual : Str} {st : Stmt} {N ps : List Str} {k : Nat} {sp : Sp} (c : Cls K C) (D : MethAt K C m qual st ps) (S : FnScope N ps (defScope st)) (len : ∀ vs H Q E, sp vs H Q E → vs.length = ps.length)
    (hbody : ∀ (f : Addr) (cdv : Value) (A : Around) (outer : List Env) (s : Shared) (H : Hp) (vs : List V) (Q : VK) (E : XK), Room k (A.deeper (envOfC qual (defScope st) s.heap.objs.size f cdv)) → sp vs H Q E →
      ∃ t, PSs (cxOf CX0 P w K mg base N qual (defScope st) f cdv A outer s H E).nox (defBody st) t ∧ t { nx := fun _ H' => Q .non H', rt := Q } (start N vs) H) :
    ∃ f fd, Cls K C ∧ Meth K C m f ∧ Binds K fd ps [] ∧ FnOk P w K mg base CX0 (k + 1) f fd ps sp := by
  obtain ⟨f, fd, h1, h2, h3⟩ := D.ex
  exact ⟨f, fd, c, h1, h3, h2.ok S len (hbody f)⟩
/-- what is asked of an own class -/
structure ClsAt (K : PySem.W.Frag) (mg : Str → Option Value) (x : Str) (C : Addr) : Prop where
  mg_ : mg x = some (.ref C)
  cl : Cls K C
  ha : PySem.W.findIn K (.ref C) "__class__" = some (some (.builtin "object.__class__"))
  hn : PySem.W.specialIn K (.builtin "object.__class__") "__get__" = some (some (.builtin "getset_descriptor.__get__"))
  htk : PySem.W.takesIn K (.builtin "object.__class__") = some true
  hm : PySem.W.mroIn K C (.type "object") = some true
  mkg : PySem.W.makesIn K C = true
  kp : PySem.W.keepIn K (.ref C) = true
theorem clsAt_mk {K : PySem.W.Frag} {mg : Str → Option Value} {h : Heap} {x : Str} {C : Addr} (X : K.In h) (G : h.Ns mainGlobals mg) (a : PySem.W.nsIn K mainGlobals x = some (some (.ref C)))
    (pg : PySem.W.plainGet K C Str.empty = true) (hd : PySem.W.hasDictIn K C = true) (po : PySem.W.plainOver K C = true) (sa : PySem.W.findIn K (.ref C) "__setattr__" = some (some (.builtin "object.__setattr__")))
    (ha : PySem.W.findIn K (.ref C) "__class__" = some (some (.builtin "object.__class__"))) (hn : PySem.W.specialIn K (.builtin "object.__class__") "__get__" = some (some (.builtin "getset_descriptor.__get__")))
    (htk : PySem.W.takesIn K (.builtin "object.__class__") = some true) (hm : PySem.W.mroIn K C (.type "object") = some true) (mk : PySem.W.makesIn K C = true) (kp : PySem.W.keepIn K (.ref C) = true) : ClsAt K mg x C :=
  ⟨PySem.W.mg_of X G a, ⟨pg, hd, po, sa⟩, ha, hn, htk, hm, mk, kp⟩
/-- a new instance of the class called x -/
structure MakAt (P : Program) (w : World) (K : PySem.W.Frag) (mg : Str → Option Value) (base : Heap) (cx : CXT) (x : Str) (C : Addr) (k : Nat) (ps : List Str) (sp : Sp) : Prop where
  ex : ∃ f fd, mg x = some (.ref C) ∧ Mk K C f ∧ Binds K fd ps [] ∧ FnOk P w K mg base cx k f fd ps sp
theorem makAt_of {P : Program} {w : World} {K : PySem.W.Frag} {mg : Str → Option Value} {base : Heap} {cx : CXT} {x : Str} {C : Addr} {k : Nat} {ps : List Str} {sp : Sp} (c : ClsAt K mg x C)
    (h : ∃ f fd, Cls K C ∧ Meth K C "__init__" f ∧ Binds K fd ps [] ∧ FnOk P w K mg base cx k f fd ps sp) : MakAt P w K mg base cx x C k ps sp := by
  obtain ⟨f, fd, _, h1, h2, h3⟩ := h
  exact ⟨f, fd, c.mg_, ⟨c.mkg, h1.at_, h1.fn, c.kp⟩, h2, h3⟩
section
variable {X : Cx} {cx : CXT} {j k : Nat} {ps : List Str} {sp : Sp} {E : XK} {x : Str} {C : Addr} {p pos : Pos} {e : Expr} {es : List Expr} {t : TA}
theorem pe_makeF (M : MakAt X.prog X.w X.K X.mg X.base cx x C k ps sp) (hr : Room j X.A) (hx : Passes cx X E) (ha : PA X (e :: es) t) (hj : k + 1 ≤ j := by decide) (hg : Gl X x := by rfl)
    (hdb : (x == ("__debug__" : Str)) = false := by decide) (he : starEach (e :: es) X.env = (false, eval e X.env) :: starEach es X.env := by rfl) (hpl : (backTo pos (starEach es X.env)).any (·.1) = false := by rfl) :
    PE X (.Call (.Name x p) (e :: es) [] pos) (tMake C sp [] E t) := by
  obtain ⟨f, fd, h1, h2, h3, h4⟩ := M.ex
  exact pe_make h2 h4 (hr.mono hj) hg h1 h3 .nil hx ha hdb he hpl
end

/-! ## isinstance(x, C), C one of one's own classes -/
theorem pe_cls {X : Cx} {x : Str} {C : Addr} {pos : Pos} (h : ClsAt X.K X.mg x C) (hg : Gl X x := by rfl) (hd : (x == ("__debug__" : Str)) = false := by decide) : PE X (.Name x pos) (tC (.ref C)) := pe_glob hg h.mg_ rfl hd
/-- the answer, by the receiver's class -/
def rIsO (K : PySem.W.Frag) (D : Addr) (T : Addr → Bool → Prop) : List V → Hp → VK → Prop := fun xs H Q => ∃ a C dx fs b, xs = [.ref a, .ref D] ∧ H a = some (.ins C dx fs) ∧ T C b ∧ Q (.bl b) H
/-- for each class C that may come: what it says, and isinstance's answer -/
def IsT (K : PySem.W.Frag) (D : Addr) (T : Addr → Bool → Prop) : Prop := ∀ C b, T C b → (∃ mg x, ClsAt K mg x C) ∧ PySem.W.kitOne K (.ref C) (.ref D) = some b
theorem call_isO {X : Cx} {D : Addr} {T : Addr → Bool → Prop} (h : IsT X.K D T) : CallR X (.builtin "isinstance") (rIsO X.K D T) := by
  intro pins s σ H xs us Q I r hq
  obtain ⟨a, C, dx, fs, b, rfl, ha, t, q⟩ := hq
  obtain ⟨⟨mg, x, c⟩, e⟩ := h C b t
  obtain ⟨u, w', rfl, ru, rw'⟩ := vals2 r
  cases rw'
  exact isinst_ok I ru (TyOf.ins ha c.cl c.ha c.hn c.htk c.hm) e fun tk => ⟨.bl b, H, I.tok _, rfl, q⟩

/-! ## tuple(d.keys()) -/
section
open PySem.W (KdlSrc kdu_collect KdlKeysView)
variable {prog : Program} {w : World} {A : Around} {E : Value → Shared → Prop} {s : Shared} {T : String} {r d : Addr} {n : Nat} {P : Nat → Value → Prop} {OK : Heap → Prop}
theorem code_tuple_new_kdl {Q₁ : Value → Shared → Prop} (K : KdlSrc prog w T r d n P OK) (hh : A.handled = none) (hok : OK s.heap) (hn : n ≤ sizeLine)
    (h : ∀ (h' : Heap) (tk : Nat) (acc : Array Value), (∀ b o, s.heap.get? b = some o → h'.get? b = some o) → ItemsOf P acc n →
      Q₁ (.ref h'.objs.size) { s with heap := h'.push { cls := .type "tuple", data := .seq acc }, toks := tk }) :
    codeAny (model prog w) A (.call (.builtin "tuple.__new__") ⟨[.type "tuple", .ref r], []⟩) (wants Q₁ E) s := by
  refine codeAny_of_tree ?_
  show wpAny _ A.in1 (do checkBuiltinCall "tuple.__new__" ⟨[.type "tuple", .ref r], []⟩; again (.builtin "tuple.__new__" ⟨[.type "tuple", .ref r], []⟩)) _ _ s
  refine wpAny_bind (wpAny_of_eq (F.newCall_tuple_1 _) (wpAny_pure ⟨plainId_quiet F.plain_tuple_new _, codeAny_builtin F.entry_tuple_new ?_⟩))
  rw [Around.under_plainId F.plain_tuple_new _]
  have hsub := sub_tuple_self
  have hinit := init_tuple_lookup
  have hmh := madeHere_tuple
  have hTI : s.TypeIs (.ref r) T := K.type s hok
  have hh1 : A.in1.handled = none := hh
  have hnt := K.notTuple
  wp_walk using wpAny_typeOf hTI, kdu_collect (A := A.in1) K hh1 hok hn
  intro h' tk acc hk hacc
  show wpAny _ _ (Builtin.Tuple.tupleExact acc.toList.toArray >>= fun v => ret v) _ _ _
  unfold Builtin.Tuple.tupleExact
  refine wpAny_bind (wpAny_newObj_type ?_ (by show acc.toList.toArray.size ≤ sizeLine; simp only [Array.toArray_toList]; rw [hacc.1]; exact hn))
  refine wpAny_pure ?_
  have e : acc.toList.toArray = acc := by simp
  rw [e]
  exact h h' tk acc hk hacc
theorem call_tuple_kdl {Q : Value → Shared → Prop} (K : KdlSrc prog w T r d n P OK) (hh : A.handled = none) (hok : OK s.heap) (hn : n ≤ sizeLine)
    (hQ : ∀ (h' : Heap) (tk : Nat) (acc : Array Value), (∀ b o, s.heap.get? b = some o → h'.get? b = some o) → ItemsOf P acc n →
      Q (.ref h'.objs.size) { s with heap := h'.push { cls := .type "tuple", data := .seq acc }, toks := tk }) :
    wpAny (model prog w) A (call (.type "tuple") [.ref r]) Q E s := by
  refine callType_codes (Q₁ := fun obj s₁ => s₁.TypeIs obj "tuple" ∧ Q obj s₁) F.called_tuple (F.typeCall_tuple_1 _) F.entry_object_init
    (code_tuple_new_kdl (A := A.in1) K hh hok hn fun h' tk acc hk hacc => ⟨⟨_, Heap.get?_push_size _ rfl, rfl⟩, hQ h' tk acc hk hacc⟩) fun obj s₁ h₁ => ?_
  exact ⟨h₁.1, F.args_object_init_2 obj _, object_init_meets F.called_tuple.init.lookup F.called_tuple.made (by decide) prog w A.in1 _ s₁ ⟨h₁.1, rfl, h₁.2⟩⟩
end
def tTupKeys (td : TE) : TE := fun σ H Q => td σ H fun x H1 => ∃ d kvs, x = .ref d ∧ H1 d = some (.dK kvs) ∧ ∀ q, H1 q = none → Q (.ref q) (upd H1 q (.tup (kvs.map fun kv => kV kv.1)))
theorem pe_tupKeys {X : Cx} {e : Expr} {td : TE} {p pos apos cpos : Pos} (hm : X.mg "tuple" = none) (he : PE X e td) (hc : X.calm = true := by rfl) (hg : Gl X "tuple" := by rfl) (hbase : attributeBase e "keys" X.env (eval e X.env) = eval e X.env := by rfl) (hline : (apos.endLine == cpos.line) = true := by rfl)
    (na : starEach [.Call (.Attribute e "keys" apos) [] [] cpos] X.env = (false, eval (.Call (.Attribute e "keys" apos) [] [] cpos) X.env) :: starEach [] X.env := by rfl) :
    PE X (.Call (.Name "tuple" p) [.Call (.Attribute e "keys" apos) [] [] cpos] [] pos) (tTupKeys td) := by
  refine ⟨fun pins s σ H Q I h => ?_⟩
  refine Call_ (ld_blt I hg hm boot_tuple (PyProof.Rows.callWith_type1 (args_cons ?_ na) na))
  refine wpAny_Call_method (T := "dict") (id := "dict.keys") hbase rfl hline F.plainAttrs_dict F.slot_dict_keys F.type_dict_keys (thn (he.run pins s σ H _ I h) fun u s1 ⟨x, H1, I1, rx, d, kvs, ex, hd, q⟩ => ?_)
  subst ex
  obtain rfl : u = Value.ref d := rx
  obtain ⟨z, lo, vs, rk, hdt⟩ := (show ObjOk X.prog X.w H1 s1.heap d (.dK kvs) from I1.hok d _ hd)
  obtain ⟨ep, hat⟩ := hdt.dictAt
  have hl : kvs.length = vs.length := Paired.length rk
  refine ⟨hat.dictOf.typeIs, hat.dictOf.mapOf.noDict, ?_⟩
  have k2 : ∀ b o, s1.heap.get? b = some o → (s1.heap.push { cls := .type "dict_keys", data := .fields #[.ref d] }).get? b = some o := fun b ob q => Heap.get?_push_of_some _ q
  have I2 : Inv X pins σ H1 { s1 with heap := s1.heap.push { cls := .type "dict_keys", data := .fields #[.ref d] } } := I1.kept (t' := s1.toks) k2
  have view : PySem.W.KdlKeysView (s1.heap.push { cls := .type "dict_keys", data := .fields #[.ref d] }) s1.heap.objs.size d := ⟨_, Heap.get?_push_size _ rfl, rfl, rfl⟩
  have fin : wpAny (model X.prog X.w) X.A (call (.type "tuple") [.ref s1.heap.objs.size]) (EP X pins σ Q) X.xe { s1 with heap := s1.heap.push { cls := .type "dict_keys", data := .fields #[.ref d] } } := by
    refine call_tuple_kdl (PySem.W.kdl_keys (knd := mixKind X.prog X.w) (kvs := vs) (ep := ep) (d := d)) (I1.ok.hd hc) ⟨view, hat.push _⟩ (by rw [← hl]; exact z) fun h' tk acc hk hacc => ?_
    have I3 : Inv X pins σ H1 { s1 with heap := h', toks := tk } := I2.kept (h' := h') (t' := tk) hk
    have el : acc.toList.length = acc.size := by simp
    have rv : Vals (kvs.map fun kv => kV kv.1) acc.toList := by
      refine vals_of_at (by rw [List.length_map, el, hacc.1, hl]) fun j x w h1 h2 => ?_
      obtain ⟨k, y, hky, hi⟩ := hacc.2 j w (by rw [← Array.getElem?_toList]; exact h2)
      have e1 : (kvs.map (·.1))[j]? = some k := by
        rw [KV.keys rk, List.getElem?_map, hky] <;> rfl
      have e2 : (kvs.map fun kv => kV kv.1)[j]? = some (kV k) := by
        have e3 : (kvs.map fun kv => kV kv.1) = (kvs.map (·.1)).map kV := by rw [List.map_map] <;> rfl
        rw [e3, List.getElem?_map, e1] <;> rfl
      rw [e2] at h1
      cases h1
      exact keyIs_rel hi
    have hz : (kvs.map fun kv => kV kv.1).length ≤ sizeLine := by rw [List.length_map]; exact z
    have I4 : Inv X pins σ (upd H1 h'.objs.size (.tup (kvs.map fun kv => kV kv.1))) { s1 with heap := h'.push { cls := .type "tuple", data := .seq acc }, toks := tk } := by
      refine I3.laid (t' := tk) (fun b o e => Heap.get?_push_of_some _ e) (Nat.le_refl _) (show ObjOk X.prog X.w _ _ _ (.tup _) from ⟨hz, acc.toList, rv, ?_⟩)
      have e5 : acc.toList.toArray = acc := by simp
      rw [e5]
      exact ⟨_, Heap.get?_push_size _ rfl, rfl, _, rfl⟩
    exact ⟨.ref h'.objs.size, _, I4, rfl, q _ (I3.hok.fresh (Nat.le_refl _))⟩
  show wpAny _ _ (callWith cpos (.builtin "dict.keys") [.ref d] [] []) _ X.xe s1
  exact method_meetsIn F.slot_dict_keys F.entry_dict_keys rfl (PySem.evalArgs_none ⟨rfl, hat.dictOf.typeIs, F.args_dict_keys_1 _, _, PySem.W.kdl_meets_keys (mixKind X.prog X.w) d lo, ⟨vs, hat.dictOf⟩, args_nil fin⟩)

/-! ## xs != [] of any list -/
def rNeE (K : PySem.W.Frag) : R2 := fun x y H Q => ∃ a b xs, x = .ref a ∧ y = .ref b ∧ SqL K H a xs ∧ SqL K H b [] ∧ Q (.bl (!xs.isEmpty)) H
theorem op_neE {X : Cx} (hu : X.A.units < cLine) : OpR X (compareOp .NotEq) (rNeE X.K) := by
  intro pins s σ H x y v u Q I rx ry h
  obtain ⟨a, b, xs, rfl, rfl, ha, hb, q⟩ := h
  obtain rfl : v = .ref a := rx
  obtain rfl : u = .ref b := ry
  obtain ⟨its, r1, p1, z1⟩ := I.list ha
  obtain ⟨jts, r2, p2, z2⟩ := I.list hb
  cases r2
  cases r1 with
  | nil => exact SeqAt.RcNeAt.lists (e := fun _ => true) p1.isList p2.isList rfl hu (fun j h1 _ => absurd h1 (by simp)) X.prog X.w _ _ ⟨.bl _, H, I, rfl, q⟩
  | cons r t => exact SeqAt.RcNeAt.lists_lengths p1.isList p2.isList (by simp) hu X.prog X.w _ _ ⟨.bl _, H, I, rfl, q⟩
/-! ## what never changes: tuples, instances of the classes T -/
def ImmO (T : Addr → Prop) : HO → Prop
  | .tup _ => True
  | .ins C _ _ => T C
  | _ => False
def Imm (T : Addr → Prop) (H H' : Hp) : Prop := ∀ b o, H b = some o → ImmO T o → H' b = some o
theorem Same.imm {T : Addr → Prop} {H H' : Hp} (s : Same H H') : Imm T H H' := fun b o e _ => s b o e
theorem Imm.refl {T : Addr → Prop} (H : Hp) : Imm T H H := fun _ _ e _ => e
theorem Imm.trans {T : Addr → Prop} {H H1 H2 : Hp} (a : Imm T H H1) (b : Imm T H1 H2) : Imm T H H2 := fun c o e i => b c o (a c o e i) i
/-- a store to what may change -/
theorem Imm.mut {T : Addr → Prop} {H : Hp} {p : Addr} {o u : HO} (h : H p = some u) (n : ¬ ImmO T u) : Imm T H (upd H p o) := fun b v e i => by
  rw [upd_ne]
  · exact e
  · rintro rfl
    rw [h] at e
    cases e
    exact n i
theorem Imm.new {T : Addr → Prop} {H : Hp} {p : Addr} {o : HO} (h : H p = none) : Imm T H (upd H p o) := Same.imm (Same.new h)
/-- all but what stands at p -/
def But (p : Addr) (H H' : Hp) : Prop := ∀ b o, H b = some o → b ≠ p → H' b = some o
theorem Same.but {p : Addr} {H H' : Hp} (s : Same H H') : But p H H' := fun b o e _ => s b o e
theorem But.trans {p : Addr} {H H1 H2 : Hp} (a : But p H H1) (b : But p H1 H2) : But p H H2 := fun c o e n => b c o (a c o e n) n
theorem But.upd {p : Addr} {H : Hp} {o : HO} : But p H (upd H p o) := fun b u e n => by rw [upd_ne n]; exact e
theorem But.imm {T : Addr → Prop} {p : Addr} {u : HO} {H H' : Hp} (s : But p H H') (h : H p = some u) (n : ¬ ImmO T u) : Imm T H H' := fun b o e i => s b o e (by
  rintro rfl
  rw [h] at e
  cases e
  exact n i)
theorem But.same {p : Addr} {H0 H H' : Hp} (s0 : Same H0 H) (s : But p H H') (h : H0 p = none) : Same H0 H' := fun b o e => s b o (s0 b o e) (ne_of_none e h)

/-! ## comprehensions: the list so far -/
theorem lc_push {H1 H4 : Hp} {D : Addr} {L : List V} {i : Nat} {y : V} (s : Same H1 H4) (nD : H1 D = none) (h : H4 D = some (.lst (L.take i))) (hy : L[i]? = some y) (hl : L.length ≤ 1000000) :
    ∃ acc, H4 D = some (.lst acc) ∧ acc.length < sizeLine ∧ (Same H1 (upd H4 D (.lst (acc ++ [y]))) ∧ upd H4 D (.lst (acc ++ [y])) D = some (.lst (L.take (i + 1)))) := by
  refine ⟨_, h, ?_, Same.mut s nD, ?_⟩
  · rw [List.length_take, sizeLine_eq]
    omega
  · rw [upd_same, List.take_succ, hy]
    rfl
theorem lk1 {f m : Str} {v : V} (h : (m == f) = false) : List.lookup m [(f, v)] = none := by
  simp [List.lookup, h]
theorem lk1s {f : Str} {v : V} : List.lookup f [(f, v)] = some v := by
  simp [List.lookup]
/-! ## xs == [] of any list; xs.count(y) of flat things; isinstance(t, tuple) -/
def rEqE (K : PySem.W.Frag) : R2 := fun x y H Q => ∃ a b xs, x = .ref a ∧ y = .ref b ∧ SqL K H a xs ∧ SqL K H b [] ∧ Q (.bl xs.isEmpty) H
theorem op_eqE {X : Cx} (hu : X.A.units < cLine) : OpR X (compareOp .Eq) (rEqE X.K) := by
  intro pins s σ H x y v u Q I rx ry h
  obtain ⟨a, b, xs, rfl, rfl, ha, hb, q⟩ := h
  obtain rfl : v = .ref a := rx
  obtain rfl : u = .ref b := ry
  obtain ⟨its, r1, p1, z1⟩ := I.list ha
  obtain ⟨jts, r2, p2, z2⟩ := I.list hb
  cases r2
  cases r1 with
  | nil => exact SeqAt.RcAt.lists (e := fun _ => true) p1.isList p2.isList rfl hu (fun j h1 _ => absurd h1 (by simp)) X.prog X.w _ _ ⟨.bl _, H, I, rfl, q⟩
  | cons r t => exact SeqAt.RcAt.lists_lengths p1.isList p2.isList (by simp) hu X.prog X.w _ _ ⟨.bl _, H, I, rfl, q⟩
theorem count_eqU {x : V} : ∀ {xs : List V} {us : List Value}, Vals xs us → xs.all flatV = true → us.countP (eqU x) = xs.countP fun y => eqV y x
  | _, _, .nil, _ => rfl
  | y :: xs, u :: us, .cons r t, f => by
    rw [List.all_cons, Bool.and_eq_true] at f
    rw [List.countP_cons, List.countP_cons, eqU_of r f.1, count_eqU t f.2]
def rCntF (K : PySem.W.Frag) : V → List V → Hp → VK → Prop := fun x xs H Q => ∃ (p : Addr) (ys : List V) (y : V), x = .ref p ∧ xs = [y] ∧ SqL K H p ys ∧ flatV y = true ∧ ys.all flatV = true ∧ Q (.int ((ys.countP fun z => eqV z y : Nat) : Int)) H
theorem mt_countF {X : Cx} : MtR X "list.count" (rCntF X.K) := by
  intro pins s σ H x xs v us Q I rx rxs h
  obtain ⟨p, ys, y, rfl, rfl, hs, fy, fys, q⟩ := h
  cases rx
  cases rxs with
  | cons ry rt =>
    rename_i uy ut
    cases rt
    obtain ⟨its, rv, ⟨⟨cls, dd, data, sl⟩, n, ho, hc, hdn, hd⟩, hlen⟩ := I.list hs
    simp only at hc hd
    subst hc hd
    refine call_meets PySem.F.slot_list_count ⟨_, ho, rfl⟩ PySem.F.entry_list_count (PySem.F.args_list_count_2 _ _)
      (SeqAt.list_countAt p its.toArray n dd sl uy (eqU y)) ⟨ho, fun w hw => mem_eqAt ry fy rv fys w (by simpa using hw), ?_⟩
    have ec : its.toArray.toList.countP (eqU y) = ys.countP fun z => eqV z y := by
      show its.countP (eqU y) = _
      exact count_eqU rv fys
    refine ⟨.int _, H, I.tok _, ⟨s.toks, ?_⟩, q⟩
    rw [ec]
def rIsTup (K : PySem.W.Frag) : List V → Hp → VK → Prop := fun xs H Q => ∃ a vs, xs = [.ref a, .ty "tuple"] ∧ H a = some (.tup vs) ∧ Q (.bl true) H
theorem call_isTup {X : Cx} : CallR X (.builtin "isinstance") (rIsTup X.K) := by
  intro pins s σ H xs us Q I r h
  obtain ⟨a, vs, rfl, ha, q⟩ := h
  exact call_isi pins s σ H _ us Q I r ⟨_, _, _, _, true, rfl, .ty "tuple", .base (.tup ha), kit_ty (by decide +kernel), q⟩
/-! ## slices of lists -/
theorem cutV_to (l : List V) (n : Nat) : cutV l none (some (n : Int)) = l.take n := by
  unfold cutV
  rw [HT.sIx_none, HT.sIx_nat, List.drop_zero, Nat.sub_zero]
  by_cases h : n ≤ l.length
  · rw [Nat.min_eq_left h]
  · rw [Nat.min_eq_right (by omega), List.take_of_length_le (Nat.le_refl _), List.take_of_length_le (by omega)]
theorem cutV_from (l : List V) (n : Nat) : cutV l (some (n : Int)) none = l.drop n := by
  unfold cutV
  rw [HT.sIx_none, HT.sIx_nat]
  by_cases h : n ≤ l.length
  · rw [Nat.min_eq_left h, List.take_of_length_le (by rw [List.length_drop]; omega)]
  · rw [Nat.min_eq_right (by omega), List.drop_of_length_le (Nat.le_refl _), List.drop_of_length_le (by omega)]
    simp
theorem cutV_last (l : List V) : cutV l none (some (-1)) = l.dropLast := by
  unfold cutV
  rw [HT.sIx_none, List.drop_zero, Nat.sub_zero, List.dropLast_eq_take]
  congr 1
  show (if (-1 : Int) < 0 then ((-1 : Int) + (l.length : Int)).toNat else min (-1 : Int).toNat l.length) = _
  rw [if_pos (by decide)]
  omega
theorem slL_to {K : PySem.W.Frag} {H : Hp} {a : Addr} {xs : List V} {i : Int} {Q : VK} (n : Nat) (e : i = (n : Int)) (h : SqL K H a xs) (k : ∀ p, H p = none → Q (.ref p) (upd H p (.lst (xs.take n)))) : rSlL K (.ref a) none (some i) H Q :=
  ⟨a, xs, rfl, h, fun p np => by rw [e, cutV_to]; exact k p np⟩
theorem slL_from {K : PySem.W.Frag} {H : Hp} {a : Addr} {xs : List V} {i : Int} {Q : VK} (n : Nat) (e : i = (n : Int)) (h : SqL K H a xs) (k : ∀ p, H p = none → Q (.ref p) (upd H p (.lst (xs.drop n)))) : rSlL K (.ref a) (some i) none H Q :=
  ⟨a, xs, rfl, h, fun p np => by rw [e, cutV_from]; exact k p np⟩
theorem slL_last {K : PySem.W.Frag} {H : Hp} {a : Addr} {xs : List V} {Q : VK} (h : SqL K H a xs) (k : ∀ p, H p = none → Q (.ref p) (upd H p (.lst xs.dropLast))) : rSlL K (.ref a) none (some (-1)) H Q :=
  ⟨a, xs, rfl, h, fun p np => by rw [cutV_last]; exact k p np⟩
end Ru

set_option Elab.async false
set_option linter.all false
set_option maxRecDepth 100000
set_option maxHeartbeats 2000000
section
open PySem L2 Ru
local macro_rules | `(tactic| walk_at "rd") => `(tactic| try simp only [tSeq, tAsg, gName, tVar, tC, tOp, rI, rI0, tRet, tDrop, tIfS, tTest, tB, tAndV, tOrV, tNotV, tAnd, tOr, tNot, tIf, tCall, tCons, tNil, tCB, tAug, rEq, rNe, tNext, tRetN, L2.start, List.map_cons, List.map_nil, List.length_cons, List.length_nil, List.replicate, List.cons_append, List.nil_append, List.append_nil, List.getElem?_cons_zero, List.getElem?_cons_succ, List.set_cons_zero, List.set_cons_succ, Option.some.injEq, V.int.injEq, V.str.injEq, V.bl.injEq, V.ref.injEq, List.cons.injEq, exists_eq_left, exists_eq_left', exists_eq_right, exists_and_left, exists_const, true_and, and_true, CDiv, CMul, Int.reduceLT, Int.reduceLE, Int.reducePow, Int.reduceNeg, true_or, or_true, wipe, gcons_eq, gnil_eq, cxOf_K, tSl, rSlS, tLst, tTup, rIsF, isBlV, isIntV, flat_s, flat_i, flat_b, flat_n, rIsB, rNotB, tPart, tNoPart, rIxS, reduceCtorEq, false_and, and_false, false_or, or_false, scal_ii, scal_bb, scal_ss, scal_sb, scal_bs, decide_true, decide_false, if_true, if_false, Bool.false_eq_true, Bool.not_true, Bool.not_false, ite_true, ite_false])

namespace My
def top (i : Nat) : Stmt := PySem.Challenge.pw_rungworks_k06_whole_apart.main.body.getD i (.Pass ⟨0, 0, 0, 0⟩)
/-! ## names -/
def isLow (c : Nat) : Bool := decide (97 ≤ c ∧ c ≤ 122)
def isWord (z : Str) : Bool := z.cps.toList.all isLow && !z.cps.toList.isEmpty
abbrev sSIGNS : Str := "abcdefghijklmnopqrstuvwxyz"
def keptL : List Str := ["on", "off", "and", "or", "not", "set", "reset", "timer", "counter", "inputs", "outputs"]
def keptV : List V := keptL.map V.str
def isName (z : Str) : Bool := isWord z && decide (z.length ≤ 8) && !decide (z ∈ keptL)
theorem signs_cps : sSIGNS.cps.toList = (List.range 26).map (· + 97) := by decide +kernel
theorem mem_signs {c : Nat} : c ∈ sSIGNS.cps.toList ↔ isLow c = true := by
  rw [signs_cps, List.mem_map]
  unfold isLow
  rw [decide_eq_true_eq]
  constructor
  · rintro ⟨a, h, rfl⟩
    rw [List.mem_range] at h
    omega
  · intro h
    exact ⟨c - 97, List.mem_range.mpr (by omega), by omega⟩
theorem dec_signs {c : Nat} : decide (c ∈ sSIGNS.cps.toList) = isLow c := by
  rw [Bool.eq_iff_iff, decide_eq_true_eq]
  exact mem_signs
theorem inV_strs (z : Str) : ∀ l : List Str, inV (.str z) (l.map V.str) = decide (z ∈ l)
  | [] => by simp [inV]
  | x :: l => by
    have ih := inV_strs z l
    unfold inV at ih ⊢
    rw [List.map_cons, List.any_cons, ih]
    rw [Bool.eq_iff_iff]
    simp [eqV]
    constructor
    · rintro (h | h)
      · exact .inl h.symm
      · exact .inr h
    · rintro (h | h)
      · exact .inl h.symm
      · exact .inr h
theorem flat_strs : ∀ l : List Str, (l.map V.str).all flatV = true
  | [] => rfl
  | x :: l => by rw [List.map_cons, List.all_cons, flat_strs l]; rfl
theorem isWord_ne {z : Str} : (z ≠ ("" : Str)) ↔ z.cps.toList.isEmpty = false := by
  obtain ⟨a⟩ := z
  have e : ("" : Str) = ⟨#[]⟩ := by decide +kernel
  rw [e]
  cases h : a.toList with
  | nil =>
    have : a = #[] := by
      apply Array.ext'
      rw [h]
    subst this
    simp
  | cons x r =>
    refine ⟨fun _ => rfl, fun _ q => ?_⟩
    have q' : a = #[] := by injection q
    subst q'
    cases h
def spIsWord : Sp := fun vs H Q _ => ∃ z : Str, vs = [.str z] ∧ Q (.bl (isWord z)) H
def spIsName : Sp := fun vs H Q _ => ∃ z : Str, vs = [.str z] ∧ z.length ≤ sizeLine ∧ Q (.bl (isName z)) H
abbrev s_is_word : Stmt := top 9
theorem sc_is_word : FnScope ["text", "sign"] ["text"] (defScope s_is_word) := ⟨rfl, rfl, rfl, by decide +kernel, rfl, by decide +kernel, by decide +kernel⟩
abbrev s_is_name : Stmt := top 10
theorem sc_is_name : FnScope ["name"] ["name"] (defScope s_is_name) := ⟨rfl, rfl, rfl, by decide +kernel, rfl, by decide +kernel, by decide +kernel⟩
structure TNames (K : PySem.W.Frag) (mg : Str → Option Value) : Prop where
  d_is_word : DefAt K mg "is_word" s_is_word ["text"]
  d_is_name : DefAt K mg "is_name" s_is_name ["name"]
  g_SIGNS : GlobC mg "SIGNS" (.str sSIGNS)
  g_MOST_SIGNS : GlobC mg "MOST_SIGNS" (.int 8)
  g_KEPT : GlobT K mg "KEPT" keptV
  z_len : mg "len" = none
section
variable {P : Program} {w : World} {K : PySem.W.Frag} {mg : Str → Option Value} {base : Heap}
theorem ok_is_word (T : TNames K mg) : FnAt P w K mg base CX0 "is_word" 1 ["text"] spIsWord := by
  refine fnAt_ok T.d_is_word sc_is_word (fun vs H Q E h => ?_) (fun f cdv A outer s H vs Q E hr h => ?_)
  · obtain ⟨z, rfl, _⟩ := h; rfl
  · obtain ⟨z, rfl, k⟩ := h
    refine ⟨_, (pss_cons (ps_for PassesOwn.never rfl (pi_str (pv 0)) (pg_name (i := 1) sc_is_word.nd rfl (by first | exact Or.inl rfl | exact Or.inr rfl)) (pss_one (ps_if (pt_cmpR op_notIn_sign (pv 1) (pe_gc T.g_SIGNS) rfl) (pss_one (ps_ret pe_bl)) pss_nil)))
        (pss_one (ps_ret (pe_cmpR op_ne (pv 0) pe_str (nomark _))))), ?_⟩
    refine ⟨_, rfl, z, rfl, for_str (x := z) (fun i σ H' => ∃ v, σ = [some (.str z), v] ∧ H' = H ∧ (z.cps.toList.take i).all isLow = true) ⟨none, rfl, rfl, rfl⟩ ?_ ?_⟩
    · rintro i c σ H' hi ⟨v, rfl, rfl, hp⟩
      have hi' : z.cps.toList[i]? = some c := by simpa using hi
      walk_at "rd"
      refine ⟨c, rfl, ?_⟩
      rw [dec_signs]
      by_cases hc : isLow c = true
      · rw [hc]
        simp only [Bool.not_true, Bool.false_eq_true, if_false]
        rw [List.take_succ, hi', List.all_append, hp]
        simp [hc]
      · have hc' : isLow c = false := by simpa using hc
        rw [hc']
        refine iteT ?_
        have e : isWord z = false := by
          unfold isWord
          rw [Bool.and_eq_false_iff]
          left
          rw [List.all_eq_false]
          exact ⟨c, List.mem_of_getElem? hi', by simp [hc']⟩
        rw [e] at k
        exact k
    · rintro σ H' ⟨v, rfl, rfl, hp⟩
      walk_at "rd"
      have e : (!decide (z = "")) = isWord z := by
        unfold isWord
        have hp' : z.cps.toList.all isLow = true := by
          have : z.cps.toList.take z.cps.size = z.cps.toList := by
            rw [List.take_of_length_le]
            simp
          rw [this] at hp
          exact hp
        rw [hp', Bool.true_and, Bool.eq_iff_iff]
        simp only [Bool.not_eq_true', decide_eq_false_iff_not]
        exact isWord_ne
      rw [e]
      exact k
theorem ok_is_name (T : TNames K mg) : FnAt P w K mg base CX0 "is_name" 2 ["name"] spIsName := by
  have G_is_word : FnAt P w K mg base CX0 "is_word" 1 _ spIsWord := ok_is_word T
  refine fnAt_ok T.d_is_name sc_is_name (fun vs H Q E h => ?_) (fun f cdv A outer s H vs Q E hr h => ?_)
  · obtain ⟨z, rfl, _⟩ := h; rfl
  · obtain ⟨z, rfl, hz, k⟩ := h
    refine ⟨_, (pss_one (ps_ret (pe_and (pe_callF G_is_word hr pass0 (pa_cons (pv 0) pa_nil)) (pe_and (pe_cmpR op_le (pe_callB call_len_str (by rfl) T.z_len PySem.boot_len (pa_cons (pv 0) pa_nil)) (pe_gc T.g_MOST_SIGNS) (nomark _)) (pe_one (pe_cmp (pc_notInK T.g_KEPT (pv 0)))))))), ?_⟩
    walk_at "rd"
    refine ⟨z, rfl, ?_⟩
    unfold isName at k
    cases hw : isWord z with
    | false =>
      rw [hw] at k
      exact ⟨false, rfl, iteF k⟩
    | true =>
      rw [hw] at k
      refine ⟨true, rfl, iteT ⟨hz, ?_⟩⟩
      by_cases hl : z.length ≤ 8
      · have hl' : ((z.length : Nat) : Int) ≤ 8 := by omega
        rw [decide_eq_true hl']
        refine iteT ⟨flat_strs _, ?_⟩
        unfold keptV
        rw [inV_strs]
        rw [decide_eq_true hl] at k
        exact k
      · have hl' : ¬ ((z.length : Nat) : Int) ≤ 8 := by omega
        rw [decide_eq_false hl']
        rw [decide_eq_false hl] at k
        exact iteF k
end

/-! ## the law's cells and words -/
def cellAt (ns : List Int) (k : Int) : Int := ns.getD k.toNat 0
def mixed (c k : Int) : Int := (((c + 7919 * k + 11) * 48271 % 2147483647) * ((c + 7919 * k + 11) * 48271 % 2147483647) + 40692 * ((c + 7919 * k + 11) * 48271 % 2147483647)) % 2147483399
theorem mixed_nn (c k : Int) : 0 ≤ mixed c k := Int.emod_nonneg _ (by decide)
theorem mixed_lt (c k : Int) : mixed c k < 2147483399 := Int.emod_lt_of_pos _ (by decide)
def signAt (c : Int) (k : Nat) : Nat := 97 + (mixed c k / 31 % 26).toNat
def wordL (c : Int) (n : Nat) : List Nat := (List.range n).map (signAt c)
theorem wordL_len (c : Int) (n : Nat) : (wordL c n).length = n := by simp [wordL]
theorem wordL_succ (c : Int) (n : Nat) : wordL c (n + 1) = wordL c n ++ [signAt c n] := by simp [wordL, List.range_succ]
theorem wordL_low (c : Int) (n : Nat) : ∀ x ∈ wordL c n, 97 ≤ x ∧ x ≤ 122 := by
  intro x hx
  obtain ⟨k, _, rfl⟩ := List.mem_map.mp hx
  unfold signAt
  have h1 : 0 ≤ mixed c k / 31 % 26 := Int.emod_nonneg _ (by decide)
  have h2 : mixed c k / 31 % 26 < 26 := Int.emod_lt_of_pos _ (by decide)
  omega
theorem letters_at {j : Int} (h0 : 0 ≤ j) (h1 : j < 26) : atI (("abcdefghijklmnopqrstuvwxyz" : Str)).cps.toList j = some (97 + j.toNat) := by
  have e : ("abcdefghijklmnopqrstuvwxyz" : Str).cps.toList = (List.range 26).map (97 + ·) := by decide +kernel
  rw [e]
  refine atI_int h0 ?_
  rw [List.getElem?_map, List.getElem?_range (by omega)]
  rfl
def spCellAt (K : PySem.W.Frag) : Sp := fun vs H Q _ => ∃ (a : Addr) (ns : List Int) (k : Int), vs = [.ref a, .int k] ∧ SqL K H a (ns.map V.int) ∧ 0 ≤ k ∧ Q (.int (cellAt ns k)) H
def spMixed : Sp := fun vs H Q _ => ∃ c k : Int, vs = [.int c, .int k] ∧ Q (.int (mixed c k)) H
def spWord : Sp := fun vs H Q _ => ∃ c n : Int, vs = [.int c, .int n] ∧ 0 ≤ n ∧ n ≤ 1000 ∧ Q (.str (mkS (wordL c n.toNat))) H
abbrev s__law_cell_at : Stmt := top 26
theorem sc__law_cell_at : FnScope ["_law_script", "_law_k"] ["_law_script", "_law_k"] (defScope s__law_cell_at) := ⟨rfl, rfl, rfl, by decide +kernel, rfl, by decide +kernel, by decide +kernel⟩
abbrev s__law_mixed : Stmt := top 27
theorem sc__law_mixed : FnScope ["_law_cell", "_law_k", "_law_mix"] ["_law_cell", "_law_k"] (defScope s__law_mixed) := ⟨rfl, rfl, rfl, by decide +kernel, rfl, by decide +kernel, by decide +kernel⟩
abbrev s__law_word : Stmt := top 28
theorem sc__law_word : FnScope ["_law_cell", "_law_size_here", "_law_signs", "_law_word_here", "_law_k"] ["_law_cell", "_law_size_here"] (defScope s__law_word) := ⟨rfl, rfl, rfl, by decide +kernel, rfl, by decide +kernel, by decide +kernel⟩
structure TCells (K : PySem.W.Frag) (mg : Str → Option Value) : Prop where
  d_cell_at : DefAt K mg "_law_cell_at" s__law_cell_at ["_law_script", "_law_k"]
  d_mixed : DefAt K mg "_law_mixed" s__law_mixed ["_law_cell", "_law_k"]
  d_word : DefAt K mg "_law_word" s__law_word ["_law_cell", "_law_size_here"]
  z_len : mg "len" = none
  z_range : mg "range" = none
section
variable {P : Program} {w : World} {K : PySem.W.Frag} {mg : Str → Option Value} {base : Heap}
theorem ok_cell_at (T : TCells K mg) : FnAt P w K mg base CX0 "_law_cell_at" 1 ["_law_script", "_law_k"] (spCellAt K) := by
  refine fnAt_ok T.d_cell_at sc__law_cell_at (fun vs H Q E h => ?_) (fun f cdv A outer s H vs Q E hr h => ?_)
  · obtain ⟨a, ns, k, rfl, _⟩ := h; rfl
  · obtain ⟨a, ns, n, rfl, hs, h0, k⟩ := h
    refine ⟨_, (pss_cons (ps_if (pt_cmpR op_lt (pv 1) (pe_callB call_len_seq (by rfl) T.z_len PySem.boot_len (pa_cons (pv 0) pa_nil)) (nomark _)) (pss_one (ps_ret (pe_ix ix_list (pv 0) (pv 1) (fun _ _ => rfl)))) pss_nil)
        (pss_one (ps_ret pe_int))), ?_⟩
    walk_at "rd"
    refine ⟨_, .inl hs, ?_⟩
    rw [List.length_map]
    unfold cellAt at k
    by_cases hl : n < (ns.length : Int)
    · rw [decide_eq_true hl]
      have hn : n.toNat < ns.length := by omega
      refine iteT ⟨a, _, _, .int ns[n.toNat], rfl, rfl, hs, ?_, ?_⟩
      · exact atI_int h0 (by rw [List.getElem?_map, List.getElem?_eq_getElem hn]; rfl)
      · rw [List.getD_eq_getElem?_getD, List.getElem?_eq_getElem hn] at k
        exact k
    · rw [decide_eq_false hl]
      have hn : ns.length ≤ n.toNat := by omega
      refine iteF ?_
      rw [List.getD_eq_getElem?_getD, List.getElem?_eq_none hn] at k
      exact k
theorem ok_mixed (T : TCells K mg) : FnAt P w K mg base CX0 "_law_mixed" 1 ["_law_cell", "_law_k"] spMixed := by
  refine fnAt_ok T.d_mixed sc__law_mixed (fun vs H Q E h => ?_) (fun f cdv A outer s H vs Q E hr h => ?_)
  · obtain ⟨c, k, rfl, _⟩ := h; rfl
  · obtain ⟨c, n, rfl, k⟩ := h
    refine ⟨_, (pss_cons (ps_set (i := 2) sc__law_mixed.nd rfl (by first | exact Or.inl rfl | exact Or.inr rfl) (pe_op op_mod (pe_op op_mul (pe_op op_add (pe_op op_add (pv 0) (pe_op op_mul pe_int (pv 1))) pe_int) pe_int) pe_int))
        (pss_one (ps_ret (pe_op op_mod (pe_op op_add (pe_op op_mul (pv 2) (pv 2)) (pe_op op_mul pe_int (pv 2))) pe_int)))), ?_⟩
    walk_at "rd"
    have h1 : 0 ≤ (c + 7919 * n + 11) * 48271 % 2147483647 := Int.emod_nonneg _ (by decide)
    have h2 : (c + 7919 * n + 11) * 48271 % 2147483647 < 2147483647 := Int.emod_lt_of_pos _ (by decide)
    exact ⟨.inl ⟨by omega, by omega⟩, k⟩
theorem ok_word (T : TCells K mg) : FnAt P w K mg base CX0 "_law_word" 2 ["_law_cell", "_law_size_here"] spWord := by
  have G__law_mixed : FnAt P w K mg base CX0 "_law_mixed" 1 _ spMixed := ok_mixed T
  refine fnAt_ok T.d_word sc__law_word (fun vs H Q E h => ?_) (fun f cdv A outer s H vs Q E hr h => ?_)
  · obtain ⟨c, k, rfl, _⟩ := h; rfl
  · obtain ⟨c, n, rfl, hn0, hn, k⟩ := h
    refine ⟨_, (pss_cons (ps_set (i := 2) sc__law_word.nd rfl (by first | exact Or.inl rfl | exact Or.inr rfl) pe_str)
        (pss_cons (ps_set (i := 3) sc__law_word.nd rfl (by first | exact Or.inl rfl | exact Or.inr rfl) pe_str)
        (pss_cons (ps_for PassesOwn.never rfl (pi_range1 rfl T.z_range (pa_cons (pv 1) pa_nil)) (pg_name (i := 4) sc__law_word.nd rfl (by first | exact Or.inl rfl | exact Or.inr rfl)) (pss_one (ps_aug (i := 3) sc__law_word.nd rfl (by first | exact Or.inl rfl | exact Or.inr rfl) (pe_ix ix_str (pv 2) (pe_op op_mod (pe_op op_fdiv (pe_callF G__law_mixed hr pass0 (pa_cons (pv 0) (pa_cons (pv 4) pa_nil))) pe_int) pe_int) (fun _ _ => rfl)) iop_add_str)))
        (pss_one (ps_ret (pv 3)))))), ?_⟩
    walk_at "rd"
    refine ⟨_, rfl, _, rfl, by omega, by omega, for_range (lo := 0) (n := n.toNat) (fun i σ H' => ∃ v, σ = [some (.int c), some (.int n), some (.str ("abcdefghijklmnopqrstuvwxyz" : Str)), some (.str (mkS (wordL c i))), v] ∧ H' = H) ⟨none, by rw [empty_mk]; rfl, rfl⟩ ?_ ?_⟩
    · rintro i σ H' hi ⟨v, rfl, rfl⟩
      walk_at "rd"
      have h1 : 0 ≤ mixed c (i : Nat) / 31 % 26 := Int.emod_nonneg _ (by decide)
      have h2 : mixed c (i : Nat) / 31 % 26 < 26 := Int.emod_lt_of_pos _ (by decide)
      rw [Int.zero_add]
      refine ⟨_, _, rfl, _, rfl, by decide +kernel, _, letters_at h1 h2, ?_, _, ⟨?_, rfl⟩, rfl⟩
      · rw [mkS_one, mkS_len, mkS_len, wordL_len, sizeLine_eq]
        simp
        omega
      · rw [mkS_one, mkS_app, wordL_succ]
        rfl
    · rintro σ H' ⟨v, rfl, rfl⟩
      walk_at "rd"
      exact k
end

/-! ## conditions: the plain side -/
inductive Cond where
  | fixed (b : Bool)
  | contact (n : Str)
  | not (c : Cond)
  | grp (s : Bool) (cs : List Cond)
mutual
def Cond.size : Cond → Nat
  | .fixed _ => 1
  | .contact _ => 1
  | .not c => c.size + 1
  | .grp _ cs => Cond.sizes cs + 1
def Cond.sizes : List Cond → Nat
  | [] => 0
  | c :: cs => c.size + Cond.sizes cs
end
mutual
def Cond.depth : Cond → Nat
  | .fixed _ => 1
  | .contact _ => 1
  | .not c => c.depth + 1
  | .grp _ cs => Cond.depths cs + 1
def Cond.depths : List Cond → Nat
  | [] => 0
  | c :: cs => max c.depth (Cond.depths cs)
end
def Cond.kids : Cond → List Cond
  | .fixed _ => []
  | .contact _ => []
  | .not c => [c]
  | .grp _ cs => cs
theorem Cond.depth_kids (c : Cond) : c.depth = Cond.depths c.kids + 1 := by
  cases c <;> simp [Cond.depth, Cond.kids, Cond.depths]
theorem Cond.size_kids (c : Cond) : c.size = Cond.sizes c.kids + 1 := by
  cases c <;> simp [Cond.size, Cond.kids, Cond.sizes]
theorem Cond.depth_pos (c : Cond) : 1 ≤ c.depth := by rw [Cond.depth_kids]; omega
theorem Cond.size_pos (c : Cond) : 1 ≤ c.size := by rw [Cond.size_kids]; omega
theorem Cond.depth_mem : ∀ {cs : List Cond} {c : Cond}, c ∈ cs → c.depth ≤ Cond.depths cs
  | x :: cs, c, h => by
    rw [Cond.depths]
    rcases List.mem_cons.mp h with rfl | h
    · omega
    · have := Cond.depth_mem h
      omega
theorem Cond.size_mem : ∀ {cs : List Cond} {c : Cond}, c ∈ cs → c.size ≤ Cond.sizes cs
  | x :: cs, c, h => by
    rw [Cond.sizes]
    rcases List.mem_cons.mp h with rfl | h
    · omega
    · have := Cond.size_mem h
      omega
theorem Cond.sizes_sum : ∀ cs : List Cond, Cond.sizes cs = (cs.map Cond.size).sum
  | [] => rfl
  | c :: cs => by rw [Cond.sizes, Cond.sizes_sum cs, List.map_cons, List.sum_cons]
theorem Cond.len_sizes : ∀ cs : List Cond, cs.length ≤ Cond.sizes cs
  | [] => Nat.le_refl _
  | c :: cs => by
    have h1 := Cond.len_sizes cs
    have h2 := c.size_pos
    rw [Cond.sizes, List.length_cons]
    omega
theorem Cond.depths_le : ∀ cs : List Cond, Cond.depths cs ≤ Cond.sizes cs
  | [] => Nat.le_refl _
  | c :: cs => by
    have ih := Cond.depths_le cs
    have h2 : c.depth ≤ c.size := by
      rw [Cond.depth_kids, Cond.size_kids]
      have := Cond.depths_le c.kids
      omega
    rw [Cond.depths, Cond.sizes]
    omega
termination_by cs => Cond.sizes cs
decreasing_by
  · have := c.size_pos
    simp [Cond.sizes]
    omega
  · have := Cond.size_kids c
    simp [Cond.sizes]
    omega
/-- a truth of each name -/
abbrev Im := Str → Bool
mutual
def Cond.holds (f : Im) : Cond → Bool
  | .fixed b => b
  | .contact n => f n
  | .not c => !c.holds f
  | .grp true cs => Cond.alls f cs
  | .grp false cs => Cond.anys f cs
def Cond.alls (f : Im) : List Cond → Bool
  | [] => true
  | c :: cs => c.holds f && Cond.alls f cs
def Cond.anys (f : Im) : List Cond → Bool
  | [] => false
  | c :: cs => c.holds f || Cond.anys f cs
end
theorem Cond.alls_map (f : Im) : ∀ cs : List Cond, Cond.alls f cs = (cs.map (Cond.holds f)).all id
  | [] => rfl
  | c :: cs => by rw [Cond.alls, Cond.alls_map f cs]; rfl
theorem Cond.anys_map (f : Im) : ∀ cs : List Cond, Cond.anys f cs = (cs.map (Cond.holds f)).any id
  | [] => rfl
  | c :: cs => by rw [Cond.anys, Cond.anys_map f cs]; rfl
/-- names put behind those that are there, each once -/
def addN (l : List Str) (n : Str) : List Str := if n ∈ l then l else l ++ [n]
mutual
def Cond.gather (l : List Str) : Cond → List Str
  | .fixed _ => l
  | .contact n => addN l n
  | .not c => c.gather l
  | .grp _ cs => Cond.gathers l cs
def Cond.gathers (l : List Str) : List Cond → List Str
  | [] => l
  | c :: cs => Cond.gathers (c.gather l) cs
end
def Cond.contacts (c : Cond) : List Str := c.gather []
theorem Cond.gathers_fold : ∀ (l : List Str) (cs : List Cond), Cond.gathers l cs = cs.foldl Cond.gather l
  | l, [] => rfl
  | l, c :: cs => by rw [Cond.gathers, Cond.gathers_fold (c.gather l) cs]; rfl
def word (s : Bool) : Str := if s then "and" else "or"
mutual
def Cond.told : Cond → PyData
  | .fixed b => .tuple [.str "fixed", .bool b]
  | .contact n => .tuple [.str "contact", .str n]
  | .not c => .tuple [.str "not", c.told]
  | .grp s cs => .tuple (.str (word s) :: Cond.tolds cs)
def Cond.tolds : List Cond → List PyData
  | [] => []
  | c :: cs => c.told :: Cond.tolds cs
end
theorem Cond.tolds_map : ∀ cs : List Cond, Cond.tolds cs = cs.map Cond.told
  | [] => rfl
  | c :: cs => by rw [Cond.tolds, Cond.tolds_map cs]; rfl

/-! ## parts: the objects -/
/-- the five classes -/
structure Cl where
  fx : Addr
  ct : Addr
  tn : Addr
  sr : Addr
  br : Addr
def Cl.gr (cl : Cl) (s : Bool) : Addr := if s then cl.sr else cl.br
def Cl.has (cl : Cl) (C : Addr) : Prop := C = cl.fx ∨ C = cl.ct ∨ C = cl.tn ∨ C = cl.sr ∨ C = cl.br
theorem Cl.has_gr (cl : Cl) (s : Bool) : cl.has (cl.gr s) := by
  cases s <;> simp [Cl.gr, Cl.has]
mutual
/-- at v stands the condition c -/
inductive IsP (cl : Cl) (H : Hp) : V → Cond → Prop
  | fixed {a dx : Addr} {b : Bool} (h : H a = some (.ins cl.fx dx [("value", .bl b)])) : IsP cl H (.ref a) (.fixed b)
  | contact {a dx : Addr} {n : Str} (h : H a = some (.ins cl.ct dx [("name", .str n)])) : IsP cl H (.ref a) (.contact n)
  | not {a dx : Addr} {v : V} {c : Cond} (h : H a = some (.ins cl.tn dx [("part", v)])) (p : IsP cl H v c) : IsP cl H (.ref a) (.not c)
  | grp {a dx t : Addr} {vs : List V} {s : Bool} {cs : List Cond} (h : H a = some (.ins (cl.gr s) dx [("parts", .ref t)])) (ht : H t = some (.tup vs)) (p : IsPs cl H vs cs) : IsP cl H (.ref a) (.grp s cs)
inductive IsPs (cl : Cl) (H : Hp) : List V → List Cond → Prop
  | nil : IsPs cl H [] []
  | cons {v : V} {vs : List V} {c : Cond} {cs : List Cond} (h : IsP cl H v c) (t : IsPs cl H vs cs) : IsPs cl H (v :: vs) (c :: cs)
end
section
variable {cl : Cl} {H H' : Hp} {v : V} {vs : List V} {c : Cond} {cs : List Cond}
mutual
theorem IsP.mono (k : Imm cl.has H H') : ∀ {v : V} {c : Cond}, IsP cl H v c → IsP cl H' v c
  | _, _, .fixed h => .fixed (k _ _ h (.inl rfl))
  | _, _, .contact h => .contact (k _ _ h (.inr (.inl rfl)))
  | _, _, .not h p => .not (k _ _ h (.inr (.inr (.inl rfl)))) (p.mono k)
  | _, _, .grp h ht p => .grp (k _ _ h (cl.has_gr _)) (k _ _ ht trivial) (p.mono k)
theorem IsPs.mono (k : Imm cl.has H H') : ∀ {vs : List V} {cs : List Cond}, IsPs cl H vs cs → IsPs cl H' vs cs
  | _, _, .nil => .nil
  | _, _, .cons p t => .cons (p.mono k) (t.mono k)
end
theorem IsPs.length : ∀ {vs : List V} {cs : List Cond}, IsPs cl H vs cs → vs.length = cs.length
  | _, _, .nil => rfl
  | _, _, .cons _ t => by rw [List.length_cons, List.length_cons, IsPs.length t]
theorem IsPs.at : ∀ {vs : List V} {cs : List Cond} {i : Nat} {v : V}, IsPs cl H vs cs → vs[i]? = some v → ∃ c, cs[i]? = some c ∧ IsP cl H v c
  | _, _, i, v, .nil, h => by simp at h
  | _, _, 0, v, .cons p t, h => by
    simp at h
    subst h
    exact ⟨_, rfl, p⟩
  | _, _, i + 1, v, .cons p t, h => by
    obtain ⟨c, h1, h2⟩ := IsPs.at (i := i) (v := v) t (by simpa using h)
    exact ⟨c, by simpa using h1, h2⟩
theorem IsPs.snoc : ∀ {vs : List V} {cs : List Cond} {v : V} {c : Cond}, IsPs cl H vs cs → IsP cl H v c → IsPs cl H (vs ++ [v]) (cs ++ [c])
  | _, _, _, _, .nil, p => .cons p .nil
  | _, _, _, _, .cons q t, p => .cons q (t.snoc p)
/-- the receiver: an instance of one of the five -/
theorem IsP.obj (p : IsP cl H v c) : ∃ a C dx f x, v = .ref a ∧ H a = some (.ins C dx [(f, x)]) ∧ cl.has C ∧ (f = "value" ∨ f = "name" ∨ f = "part" ∨ f = "parts") := by
  cases p with
  | fixed h => exact ⟨_, _, _, _, _, rfl, h, .inl rfl, .inl rfl⟩
  | contact h => exact ⟨_, _, _, _, _, rfl, h, .inr (.inl rfl), .inr (.inl rfl)⟩
  | not h _ => exact ⟨_, _, _, _, _, rfl, h, .inr (.inr (.inl rfl)), .inr (.inr (.inl rfl))⟩
  | grp h _ _ => exact ⟨_, _, _, _, _, rfl, h, cl.has_gr _, .inr (.inr (.inr rfl))⟩
end
/-- no method is called like a field -/
def notField (m : Str) : Bool := !(m == "value") && !(m == "name") && !(m == "part") && !(m == "parts")
theorem lookup_field {m f : Str} {x : V} (hm : notField m = true) (hf : f = "value" ∨ f = "name" ∨ f = "part" ∨ f = "parts") : List.lookup m [(f, x)] = none := by
  unfold notField at hm
  simp only [Bool.and_eq_true, Bool.not_eq_true'] at hm
  obtain ⟨⟨⟨h1, h2⟩, h3⟩, h4⟩ := hm
  rcases hf with rfl | rfl | rfl | rfl <;> exact lk1 (by assumption)
/-- what the call of a method of a part asks -/
theorem meth_of {cl : Cl} {H : Hp} {v : V} {c : Cond} {m : Str} (hm : notField m = true) (p : IsP cl H v c) : ∃ a C dx fs, v = .ref a ∧ H a = some (.ins C dx fs) ∧ cl.has C ∧ fs.lookup m = none := by
  obtain ⟨a, C, dx, f, x, rfl, h, hc, hf⟩ := p.obj
  exact ⟨a, C, dx, _, rfl, h, hc, lookup_field hm hf⟩
theorem look_of {cl : Cl} {H : Hp} {a C dx : Addr} {fs : List (Str × V)} {c : Cond} {m : Str} (hm : notField m = true) (ha : H a = some (.ins C dx fs)) (p : IsP cl H (.ref a) c) : fs.lookup m = none := by
  obtain ⟨a', C', dx', f, x, e, h, hc, hf⟩ := p.obj
  injection e with e
  subst e
  rw [ha] at h
  cases h
  exact lookup_field hm hf
abbrev s_Part_inner : Stmt := inClass (top 14) 0
theorem sc_Part_inner : FnScope ["self"] ["self"] (defScope s_Part_inner) := ⟨rfl, rfl, rfl, by decide +kernel, rfl, by decide +kernel, by decide +kernel⟩
abbrev s_Turned_inner : Stmt := inClass (top 17) 1
theorem sc_Turned_inner : FnScope ["self"] ["self"] (defScope s_Turned_inner) := ⟨rfl, rfl, rfl, by decide +kernel, rfl, by decide +kernel, by decide +kernel⟩
abbrev s_Group_inner : Stmt := inClass (top 18) 1
theorem sc_Group_inner : FnScope ["self"] ["self"] (defScope s_Group_inner) := ⟨rfl, rfl, rfl, by decide +kernel, rfl, by decide +kernel, by decide +kernel⟩
abbrev s_Part_size : Stmt := inClass (top 14) 4
theorem sc_Part_size : FnScope ["self", "part"] ["self"] (defScope s_Part_size) := ⟨rfl, rfl, rfl, by decide +kernel, rfl, by decide +kernel, by decide +kernel⟩
abbrev s_Part_depth : Stmt := inClass (top 14) 5
theorem sc_Part_depth : FnScope ["self", "part"] ["self"] (defScope s_Part_depth) := ⟨rfl, rfl, rfl, by decide +kernel, rfl, by decide +kernel, by decide +kernel⟩
abbrev s_Part_bounded : Stmt := inClass (top 14) 8
theorem sc_Part_bounded : FnScope ["self"] ["self"] (defScope s_Part_bounded) := ⟨rfl, rfl, rfl, by decide +kernel, rfl, by decide +kernel, by decide +kernel⟩
structure TParts (K : PySem.W.Frag) (mg : Str → Option Value) (cl : Cl) : Prop where
  c_Fixed : ClsAt K mg "Fixed" cl.fx
  c_Contact : ClsAt K mg "Contact" cl.ct
  c_Turned : ClsAt K mg "Turned" cl.tn
  c_Series : ClsAt K mg "Series" cl.sr
  c_Branch : ClsAt K mg "Branch" cl.br
  nd : [cl.fx, cl.ct, cl.tn, cl.sr, cl.br].Nodup
  nv_fx : NoAttr K cl.fx "value"
  nn_ct : NoAttr K cl.ct "name"
  np_tn : NoAttr K cl.tn "part"
  np_sr : NoAttr K cl.sr "parts"
  np_br : NoAttr K cl.br "parts"
  m_inner_fx : MethAt K cl.fx "inner" "Part.inner" s_Part_inner ["self"]
  m_inner_ct : MethAt K cl.ct "inner" "Part.inner" s_Part_inner ["self"]
  m_inner_tn : MethAt K cl.tn "inner" "Turned.inner" s_Turned_inner ["self"]
  m_inner_sr : MethAt K cl.sr "inner" "Group.inner" s_Group_inner ["self"]
  m_inner_br : MethAt K cl.br "inner" "Group.inner" s_Group_inner ["self"]
  m_size_fx : MethAt K cl.fx "size" "Part.size" s_Part_size ["self"]
  m_size_ct : MethAt K cl.ct "size" "Part.size" s_Part_size ["self"]
  m_size_tn : MethAt K cl.tn "size" "Part.size" s_Part_size ["self"]
  m_size_sr : MethAt K cl.sr "size" "Part.size" s_Part_size ["self"]
  m_size_br : MethAt K cl.br "size" "Part.size" s_Part_size ["self"]
  m_depth_fx : MethAt K cl.fx "depth" "Part.depth" s_Part_depth ["self"]
  m_depth_ct : MethAt K cl.ct "depth" "Part.depth" s_Part_depth ["self"]
  m_depth_tn : MethAt K cl.tn "depth" "Part.depth" s_Part_depth ["self"]
  m_depth_sr : MethAt K cl.sr "depth" "Part.depth" s_Part_depth ["self"]
  m_depth_br : MethAt K cl.br "depth" "Part.depth" s_Part_depth ["self"]
  m_bounded_tn : MethAt K cl.tn "bounded" "Part.bounded" s_Part_bounded ["self"]
  m_bounded_sr : MethAt K cl.sr "bounded" "Part.bounded" s_Part_bounded ["self"]
  m_bounded_br : MethAt K cl.br "bounded" "Part.bounded" s_Part_bounded ["self"]
  z_sum : mg "sum" = none
  z_max : mg "max" = none
  z_tuple : mg "tuple" = none
  g_MOST_SIZE : GlobC mg "MOST_SIZE" (.int 60)
  g_MOST_DEEP : GlobC mg "MOST_DEEP" (.int 20)
section
variable {P : Program} {w : World} {K : PySem.W.Frag} {mg : Str → Option Value} {base : Heap} {cl : Cl}
theorem TParts.gr (T : TParts K mg cl) (s : Bool) : ∃ x, ClsAt K mg x (cl.gr s) := by
  cases s
  · exact ⟨_, T.c_Branch⟩
  · exact ⟨_, T.c_Series⟩
theorem TParts.np (T : TParts K mg cl) (s : Bool) : NoAttr K (cl.gr s) "parts" := by
  cases s
  · exact T.np_br
  · exact T.np_sr
theorem TParts.cls (T : TParts K mg cl) {C : Addr} (h : cl.has C) : Cls K C := by
  rcases h with rfl | rfl | rfl | rfl | rfl
  · exact T.c_Fixed.cl
  · exact T.c_Contact.cl
  · exact T.c_Turned.cl
  · exact T.c_Series.cl
  · exact T.c_Branch.cl
/-- by the class, what stands there -/
theorem inv_fx (nd : [cl.fx, cl.ct, cl.tn, cl.sr, cl.br].Nodup) {H : Hp} {a dx : Addr} {fs : List (Str × V)} {c : Cond} (h : H a = some (.ins cl.fx dx fs)) (p : IsP cl H (.ref a) c) : ∃ b, c = .fixed b ∧ fs = ([("value", .bl b)] : List (Str × V)) := by
  simp only [List.nodup_cons, List.mem_cons, List.not_mem_nil, or_false, not_or] at nd
  cases p with
  | fixed q => rw [q] at h; cases h; exact ⟨_, rfl, rfl⟩
  | contact q => rw [q] at h; injection h with h; injection h with h; exact absurd h.symm nd.1.1
  | not q _ => rw [q] at h; injection h with h; injection h with h; exact absurd h.symm nd.1.2.1
  | @grp _ _ _ _ s _ q _ _ =>
    rw [q] at h; injection h with h; injection h with h
    cases s
    · exact absurd h.symm nd.1.2.2.2
    · exact absurd h.symm nd.1.2.2.1
theorem inv_ct (nd : [cl.fx, cl.ct, cl.tn, cl.sr, cl.br].Nodup) {H : Hp} {a dx : Addr} {fs : List (Str × V)} {c : Cond} (h : H a = some (.ins cl.ct dx fs)) (p : IsP cl H (.ref a) c) : ∃ n, c = .contact n ∧ fs = ([("name", .str n)] : List (Str × V)) := by
  simp only [List.nodup_cons, List.mem_cons, List.not_mem_nil, or_false, not_or] at nd
  cases p with
  | fixed q => rw [q] at h; injection h with h; injection h with h; exact absurd h nd.1.1
  | contact q => rw [q] at h; cases h; exact ⟨_, rfl, rfl⟩
  | not q _ => rw [q] at h; injection h with h; injection h with h; exact absurd h.symm nd.2.1.1
  | @grp _ _ _ _ s _ q _ _ =>
    rw [q] at h; injection h with h; injection h with h
    cases s
    · exact absurd h.symm nd.2.1.2.2
    · exact absurd h.symm nd.2.1.2.1
theorem inv_tn (nd : [cl.fx, cl.ct, cl.tn, cl.sr, cl.br].Nodup) {H : Hp} {a dx : Addr} {fs : List (Str × V)} {c : Cond} (h : H a = some (.ins cl.tn dx fs)) (p : IsP cl H (.ref a) c) : ∃ v c', c = .not c' ∧ fs = ([("part", v)] : List (Str × V)) ∧ IsP cl H v c' := by
  simp only [List.nodup_cons, List.mem_cons, List.not_mem_nil, or_false, not_or] at nd
  cases p with
  | fixed q => rw [q] at h; injection h with h; injection h with h; exact absurd h nd.1.2.1
  | contact q => rw [q] at h; injection h with h; injection h with h; exact absurd h nd.2.1.1
  | not q p => rw [q] at h; cases h; exact ⟨_, _, rfl, rfl, p⟩
  | @grp _ _ _ _ s _ q _ _ =>
    rw [q] at h; injection h with h; injection h with h
    cases s
    · exact absurd h.symm nd.2.2.1.2
    · exact absurd h.symm nd.2.2.1.1
theorem inv_gr (nd : [cl.fx, cl.ct, cl.tn, cl.sr, cl.br].Nodup) {H : Hp} {a dx C : Addr} {fs : List (Str × V)} {c : Cond} {s : Bool} (hC : C = cl.gr s) (h : H a = some (.ins C dx fs)) (p : IsP cl H (.ref a) c) :
    ∃ t vs cs, c = .grp s cs ∧ fs = ([("parts", .ref t)] : List (Str × V)) ∧ H t = some (.tup vs) ∧ IsPs cl H vs cs := by
  subst hC
  simp only [List.nodup_cons, List.mem_cons, List.not_mem_nil, or_false, not_or] at nd
  cases p with
  | fixed q =>
    rw [q] at h; injection h with h; injection h with h
    cases s
    · exact absurd h nd.1.2.2.2
    · exact absurd h nd.1.2.2.1
  | contact q =>
    rw [q] at h; injection h with h; injection h with h
    cases s
    · exact absurd h nd.2.1.2.2
    · exact absurd h nd.2.1.2.1
  | not q _ =>
    rw [q] at h; injection h with h; injection h with h
    cases s
    · exact absurd h nd.2.2.1.2
    · exact absurd h nd.2.2.1.1
  | @grp _ _ t vs s' cs q ht p =>
    rw [q] at h; injection h with h; injection h with h1 h2 h3
    have e : s' = s := by
      cases s <;> cases s'
      · rfl
      · exact absurd h1 nd.2.2.2.1
      · exact absurd h1.symm nd.2.2.2.1
      · rfl
    subst e
    exact ⟨t, vs, cs, rfl, h3.symm, ht, p⟩
theorem sum_cast : ∀ l : List Cond, (l.map fun c => (c.size : Int)).sum = (((l.map Cond.size).sum : Nat) : Int)
  | [] => rfl
  | c :: l => by
    rw [List.map_cons, List.sum_cons, sum_cast l, List.map_cons, List.sum_cons]
    omega
/-! ### inner -/
def spInner (cl : Cl) (C : Addr) : Sp := fun vs H Q _ => ∃ (a dx : Addr) (fs : List (Str × V)) (c : Cond), vs = [.ref a] ∧ H a = some (.ins C dx fs) ∧ IsP cl H (.ref a) c ∧
  ∀ (H' : Hp) (t : Addr) (ws : List V), Same H H' → H' t = some (.tup ws) → IsPs cl H' ws c.kids → Q (.ref t) H'
theorem ok_inner0 (T : TParts K mg cl) {C : Addr} (hC : C = cl.fx ∨ C = cl.ct) (D : MethAt K C "inner" "Part.inner" s_Part_inner ["self"]) :
    ∃ f fd, Cls K C ∧ Meth K C "inner" f ∧ Binds K fd ["self"] [] ∧ FnOk P w K mg base CX0 1 f fd ["self"] (spInner cl C) := by
  refine methAt_ok (T.cls (by rcases hC with rfl | rfl; exact .inl rfl; exact .inr (.inl rfl))) D sc_Part_inner (fun vs H Q E h => ?_) (fun f cdv A outer s H vs Q E hr h => ?_)
  · obtain ⟨a, dx, fs, c, rfl, _⟩ := h; rfl
  · obtain ⟨a, dx, fs, c, rfl, ha, p, k⟩ := h
    refine ⟨_, (pss_one (ps_ret (pe_tup pa_nil))), ?_⟩
    refine ⟨Nat.zero_le _, fun q nq => k _ q [] (Same.new nq) upd_same ?_⟩
    have e : c.kids = [] := by
      rcases hC with rfl | rfl
      · obtain ⟨b, rfl, _⟩ := inv_fx T.nd ha p; rfl
      · obtain ⟨b, rfl, _⟩ := inv_ct T.nd ha p; rfl
    rw [e]
    exact .nil
theorem ok_inner1 (T : TParts K mg cl) (D : MethAt K cl.tn "inner" "Turned.inner" s_Turned_inner ["self"]) :
    ∃ f fd, Cls K cl.tn ∧ Meth K cl.tn "inner" f ∧ Binds K fd ["self"] [] ∧ FnOk P w K mg base CX0 1 f fd ["self"] (spInner cl cl.tn) := by
  refine methAt_ok T.c_Turned.cl D sc_Turned_inner (fun vs H Q E h => ?_) (fun f cdv A outer s H vs Q E hr h => ?_)
  · obtain ⟨a, dx, fs, c, rfl, _⟩ := h; rfl
  · obtain ⟨a, dx, fs, c, rfl, ha, p, k⟩ := h
    obtain ⟨v, c', rfl, rfl, p'⟩ := inv_tn T.nd ha p
    refine ⟨_, (pss_one (ps_ret (pe_tup (pa_cons (pe_fld (pv 0) rfl) pa_nil)))), ?_⟩
    refine ⟨_, rfl, a, _, dx, _, v, rfl, ha, T.c_Turned.cl, T.np_tn, lk1s, line_ge (by simp), fun q nq => ?_⟩
    exact k _ q [v] (Same.new nq) upd_same (.cons (p'.mono (Imm.new nq)) .nil)
theorem ok_inner2 (T : TParts K mg cl) (s : Bool) (D : MethAt K (cl.gr s) "inner" "Group.inner" s_Group_inner ["self"]) :
    ∃ f fd, Cls K (cl.gr s) ∧ Meth K (cl.gr s) "inner" f ∧ Binds K fd ["self"] [] ∧ FnOk P w K mg base CX0 1 f fd ["self"] (spInner cl (cl.gr s)) := by
  refine methAt_ok (T.cls (cl.has_gr s)) D sc_Group_inner (fun vs H Q E h => ?_) (fun f cdv A outer st H vs Q E hr h => ?_)
  · obtain ⟨a, dx, fs, c, rfl, _⟩ := h; rfl
  · obtain ⟨a, dx, fs, c, rfl, ha, p, k⟩ := h
    obtain ⟨t, ws, cs, rfl, rfl, ht, p'⟩ := inv_gr T.nd rfl ha p
    refine ⟨_, (pss_one (ps_ret (pe_fld (pv 0) rfl))), ?_⟩
    refine ⟨_, rfl, a, _, dx, _, _, rfl, ha, T.cls (cl.has_gr s), T.np s, lk1s, ?_⟩
    exact k H t ws (Same.refl _) ht p'
theorem disp_inner (T : TParts K mg cl) : DispAt P w K mg base CX0 cl.has "inner" 1 ["self"] (spInner cl) := by
  refine ⟨fun C hC => ?_⟩
  rcases hC with rfl | rfl | rfl | rfl | rfl
  · exact ok_inner0 T (.inl rfl) T.m_inner_fx
  · exact ok_inner0 T (.inr rfl) T.m_inner_ct
  · exact ok_inner1 T T.m_inner_tn
  · exact ok_inner2 T true T.m_inner_sr
  · exact ok_inner2 T false T.m_inner_br
/-! ### size -/
def spSize (cl : Cl) (n : Nat) (C : Addr) : Sp := fun vs H Q _ => ∃ (a dx : Addr) (fs : List (Str × V)) (c : Cond), vs = [.ref a] ∧ H a = some (.ins C dx fs) ∧ IsP cl H (.ref a) c ∧ c.depth ≤ n ∧ c.size ≤ 1000 ∧
  ∀ (H' : Hp), Same H H' → Q (.int c.size) H'
theorem ok_size (T : TParts K mg cl) {n k : Nat} (G_size : DispAt P w K mg base CX0 cl.has "size" k ["self"] (spSize cl n)) (hk : 1 ≤ k) {C : Addr} (hC : cl.has C) (D : MethAt K C "size" "Part.size" s_Part_size ["self"]) :
    ∃ f fd, Cls K C ∧ Meth K C "size" f ∧ Binds K fd ["self"] [] ∧ FnOk P w K mg base CX0 (k + 1) f fd ["self"] (spSize cl (n + 1) C) := by
  have G_inner : DispAt P w K mg base CX0 cl.has "inner" 1 ["self"] (spInner cl) := disp_inner T
  refine methAt_ok (T.cls hC) D sc_Part_size (fun vs H Q E h => ?_) (fun f cdv A outer s H vs Q E hr h => ?_)
  · obtain ⟨a, dx, fs, c, rfl, _⟩ := h; rfl
  · obtain ⟨a, dx, fs, c, rfl, ha, p, hd, hz, q⟩ := h
    refine ⟨_, (pss_one (ps_ret (pe_op op_add pe_int (pe_callB (cr_sum rfl) (by rfl) T.z_sum (by decide +kernel) (pa_cons (pe_lc (own := [("part", 1)]) (g := gName 1) (tt := tYes) rfl sc_Part_size.nd (pi_tup (pe_methD0 G_inner hr pass0 (pv 0) hk)) (blkOk_by (own := [("part", 1)]) (N := ["self", "part"]) (sc := defScope s_Part_size) (by decide +kernel)) (fun _ _ _ _ _ => pg_name (i := 1) sc_Part_size.nd rfl (Or.inl rfl)) (fun _ _ _ _ _ => pts_nil) (fun _ _ _ _ _ => (pe_methD0 G_size hr pass0 (pv 1) (Nat.le_refl _)))) pa_nil))))), ?_⟩
    refine ⟨_, rfl, a, C, dx, fs, rfl, ha, hC, look_of (by decide +kernel) ha p, a, dx, fs, c, rfl, ha, p, fun H1 t ws s1 ht ps => ?_⟩
    have hlen := ps.length
    have hz2 : c.kids.length ≤ 1000 := by
      have h1 := Cond.len_sizes c.kids
      have h2 := c.size_kids
      omega
    refine ⟨t, rfl, ⟨_, SqT.of ht⟩, fun D nD => lc_tup (K := K) (a := t) (xs := ws) (fun i H' => Same H1 H' ∧ H' D = some (.lst ((c.kids.map fun c => V.int c.size).take i)))
      ⟨Same.new nD, upd_same⟩ (fun i H' _ q => SqT.of (q.1 _ _ ht)) ?_ ?_⟩
    · rintro i y H2 hy ⟨q1, q2⟩
      obtain ⟨c', hc', p'⟩ := (ps.mono (Same.imm q1)).at hy
      obtain ⟨a', C', dx', fs', rfl, ha', hC', hl'⟩ := meth_of (m := "size") (by decide +kernel) p'
      have hm := List.mem_of_getElem? hc'
      have h1 := Cond.depth_mem hm
      have h2 := Cond.size_mem hm
      have h3 := c.depth_kids
      have h4 := c.size_kids
      refine ⟨rfl, _, rfl, a', C', dx', fs', rfl, ha', hC', hl', a', dx', fs', c', rfl, ha', p', by omega, by omega, fun H3 s3 => ?_⟩
      exact lc_push (q1.trans s3) nD (s3 _ _ q2) (by rw [List.getElem?_map, hc']; rfl) (by rw [List.length_map]; omega)
    · rintro H2 ⟨q1, q2⟩
      rw [hlen, List.take_of_length_le (by simp)] at q2
      refine ⟨D, c.kids.map fun c => (c.size : Int), rfl, SqL.of ?_, _, _, rfl, rfl, ?_⟩
      · rw [q2, List.map_map]
        rfl
      · have e : (1 : Int) + (c.kids.map fun c => (c.size : Int)).sum = (c.size : Int) := by
          rw [sum_cast, Cond.size_kids, Cond.sizes_sum]
          omega
        show Q (V.int (1 + _)) _
        rw [e]
        exact q _ (s1.trans q1)
theorem disp_size (T : TParts K mg cl) : ∀ n : Nat, DispAt P w K mg base CX0 cl.has "size" (n + 1) ["self"] (spSize cl n)
  | 0 => by
    refine ⟨fun C hC => ?_⟩
    obtain ⟨f, fd, h1, h2, h3, h4⟩ := (disp_inner (P := P) (w := w) (base := base) T).ex C hC
    have D : MethAt K C "size" "Part.size" s_Part_size ["self"] := by
      rcases hC with rfl | rfl | rfl | rfl | rfl
      · exact T.m_size_fx
      · exact T.m_size_ct
      · exact T.m_size_tn
      · exact T.m_size_sr
      · exact T.m_size_br
    refine methAt_ok (T.cls hC) D sc_Part_size (fun vs H Q E h => ?_) (fun f cdv A outer s H vs Q E hr h => ?_)
    · obtain ⟨a, dx, fs, c, rfl, _⟩ := h; rfl
    · obtain ⟨a, dx, fs, c, rfl, ha, p, hd, _⟩ := h
      exact absurd c.depth_pos (by omega)
  | n + 1 => by
    refine ⟨fun C hC => ?_⟩
    have D : MethAt K C "size" "Part.size" s_Part_size ["self"] := by
      rcases hC with rfl | rfl | rfl | rfl | rfl
      · exact T.m_size_fx
      · exact T.m_size_ct
      · exact T.m_size_tn
      · exact T.m_size_sr
      · exact T.m_size_br
    exact ok_size T (disp_size T n) (by omega) hC D
/-! ### depth -/
def spDepth (cl : Cl) (n : Nat) (C : Addr) : Sp := fun vs H Q _ => ∃ (a dx : Addr) (fs : List (Str × V)) (c : Cond), vs = [.ref a] ∧ H a = some (.ins C dx fs) ∧ IsP cl H (.ref a) c ∧ c.depth ≤ n ∧ c.size ≤ 1000 ∧
  ∀ (H' : Hp), Same H H' → Q (.int c.depth) H'
theorem max_depths : ∀ (cs : List Cond) (m : Int), m ∈ (0 : Int) :: cs.map (fun c => (c.depth : Int)) → (∀ y, y ∈ (0 : Int) :: cs.map (fun c => (c.depth : Int)) → y ≤ m) → m = (Cond.depths cs : Int) := by
  have le : ∀ (cs : List Cond), ∃ y, y ∈ (0 : Int) :: cs.map (fun c => (c.depth : Int)) ∧ (Cond.depths cs : Int) ≤ y := by
    intro cs
    induction cs with
    | nil => exact ⟨0, List.mem_cons_self, by simp [Cond.depths]⟩
    | cons c cs ih =>
      obtain ⟨y, hy, hl⟩ := ih
      by_cases h : Cond.depths cs ≤ c.depth
      · exact ⟨c.depth, by simp, by rw [Cond.depths]; omega⟩
      · refine ⟨y, ?_, by rw [Cond.depths]; omega⟩
        rcases List.mem_cons.mp hy with rfl | hy
        · exact List.mem_cons_self
        · exact List.mem_cons_of_mem _ (List.mem_cons_of_mem _ hy)
  intro cs m hm hle
  obtain ⟨y, hy, hl⟩ := le cs
  have h1 := hle y hy
  have h2 : m ≤ (Cond.depths cs : Int) := by
    rcases List.mem_cons.mp hm with rfl | hm
    · omega
    · obtain ⟨c, hc, rfl⟩ := List.mem_map.mp hm
      have := Cond.depth_mem hc
      omega
  omega
theorem ok_depth (T : TParts K mg cl) {n k : Nat} (G_depth : DispAt P w K mg base CX0 cl.has "depth" k ["self"] (spDepth cl n)) (hk : 1 ≤ k) {C : Addr} (hC : cl.has C) (D : MethAt K C "depth" "Part.depth" s_Part_depth ["self"]) :
    ∃ f fd, Cls K C ∧ Meth K C "depth" f ∧ Binds K fd ["self"] [] ∧ FnOk P w K mg base CX0 (k + 1) f fd ["self"] (spDepth cl (n + 1) C) := by
  have G_inner : DispAt P w K mg base CX0 cl.has "inner" 1 ["self"] (spInner cl) := disp_inner T
  refine methAt_ok (T.cls hC) D sc_Part_depth (fun vs H Q E h => ?_) (fun f cdv A outer s H vs Q E hr h => ?_)
  · obtain ⟨a, dx, fs, c, rfl, _⟩ := h; rfl
  · obtain ⟨a, dx, fs, c, rfl, ha, p, hd, hz, q⟩ := h
    refine ⟨_, (pss_one (ps_ret (pe_op op_add pe_int (pe_callB (cr_max rfl) (by rfl) T.z_max (by decide +kernel) (pa_cons (pe_op op_cat (pe_lst (pa_cons pe_int pa_nil)) (pe_lc (own := [("part", 1)]) (g := gName 1) (tt := tYes) rfl sc_Part_depth.nd (pi_tup (pe_methD0 G_inner hr pass0 (pv 0) hk)) (blkOk_by (own := [("part", 1)]) (N := ["self", "part"]) (sc := defScope s_Part_depth) (by decide +kernel)) (fun _ _ _ _ _ => pg_name (i := 1) sc_Part_depth.nd rfl (Or.inl rfl)) (fun _ _ _ _ _ => pts_nil) (fun _ _ _ _ _ => (pe_methD0 G_depth hr pass0 (pv 1) (Nat.le_refl _))))) pa_nil))))), ?_⟩
    have hz2 : c.kids.length ≤ 1000 := by
      have h1 := Cond.len_sizes c.kids
      have h2 := c.size_kids
      omega
    refine ⟨line_ge (by decide), fun z nz => ?_⟩
    have ha0 : upd H z (.lst [.int 0]) a = some (.ins C dx fs) := Same.new nz _ _ ha
    have p0 : IsP cl (upd H z (.lst [.int 0])) (.ref a) c := p.mono (Imm.new nz)
    refine ⟨_, rfl, a, C, dx, fs, rfl, ha0, hC, look_of (by decide +kernel) ha p, a, dx, fs, c, rfl, ha0, p0, fun H1 t ws s1 ht ps => ?_⟩
    have hlen := ps.length
    refine ⟨t, rfl, ⟨_, SqT.of ht⟩, fun D nD => lc_tup (K := K) (a := t) (xs := ws) (fun i H' => Same H1 H' ∧ H' D = some (.lst ((c.kids.map fun c => V.int c.depth).take i)))
      ⟨Same.new nD, upd_same⟩ (fun i H' _ q => SqT.of (q.1 _ _ ht)) ?_ ?_⟩
    · rintro i y H2 hy ⟨q1, q2⟩
      obtain ⟨c', hc', p'⟩ := (ps.mono (Same.imm q1)).at hy
      obtain ⟨a', C', dx', fs', rfl, ha', hC', hl'⟩ := meth_of (m := "depth") (by decide +kernel) p'
      have hm := List.mem_of_getElem? hc'
      have h1 := Cond.depth_mem hm
      have h2 := Cond.size_mem hm
      have h3 := c.depth_kids
      have h4 := c.size_kids
      refine ⟨rfl, _, rfl, a', C', dx', fs', rfl, ha', hC', hl', a', dx', fs', c', rfl, ha', p', by omega, by omega, fun H3 s3 => ?_⟩
      exact lc_push (q1.trans s3) nD (s3 _ _ q2) (by rw [List.getElem?_map, hc']; rfl) (by rw [List.length_map]; omega)
    · rintro H2 ⟨q1, q2⟩
      rw [hlen, List.take_of_length_le (by simp)] at q2
      refine ⟨z, D, [.int 0], _, rfl, rfl, q1 _ _ (s1 _ _ upd_same), q2, line_ge (by simp; omega), fun y ny => ?_⟩
      refine ⟨y, (0 : Int) :: c.kids.map (fun c => (c.depth : Int)), rfl, SqL.of ?_, by simp, fun m hm hle => ?_⟩
      · rw [upd_same]
        simp [List.map_map, Function.comp_def]
      · have e := max_depths c.kids m hm hle
        refine ⟨_, _, rfl, rfl, ?_⟩
        have e2 : (1 : Int) + m = (c.depth : Int) := by
          rw [e, Cond.depth_kids]
          omega
        show Q (V.int (1 + m)) _
        rw [e2]
        exact q _ (((Same.new nz).trans (s1.trans q1)).trans (Same.new ny))
theorem disp_depth (T : TParts K mg cl) : ∀ n : Nat, DispAt P w K mg base CX0 cl.has "depth" (n + 1) ["self"] (spDepth cl n)
  | 0 => by
    refine ⟨fun C hC => ?_⟩
    have D : MethAt K C "depth" "Part.depth" s_Part_depth ["self"] := by
      rcases hC with rfl | rfl | rfl | rfl | rfl
      · exact T.m_depth_fx
      · exact T.m_depth_ct
      · exact T.m_depth_tn
      · exact T.m_depth_sr
      · exact T.m_depth_br
    refine methAt_ok (T.cls hC) D sc_Part_depth (fun vs H Q E h => ?_) (fun f cdv A outer s H vs Q E hr h => ?_)
    · obtain ⟨a, dx, fs, c, rfl, _⟩ := h; rfl
    · obtain ⟨a, dx, fs, c, rfl, ha, p, hd, _⟩ := h
      exact absurd c.depth_pos (by omega)
  | n + 1 => by
    refine ⟨fun C hC => ?_⟩
    have D : MethAt K C "depth" "Part.depth" s_Part_depth ["self"] := by
      rcases hC with rfl | rfl | rfl | rfl | rfl
      · exact T.m_depth_fx
      · exact T.m_depth_ct
      · exact T.m_depth_tn
      · exact T.m_depth_sr
      · exact T.m_depth_br
    exact ok_depth T (disp_depth T n) (by omega) hC D
/-! ### bounded: what is within the limits is let by -/
def spBounded (cl : Cl) (C : Addr) : Sp := fun vs H Q _ => ∃ (a dx : Addr) (fs : List (Str × V)) (c : Cond), vs = [.ref a] ∧ H a = some (.ins C dx fs) ∧ IsP cl H (.ref a) c ∧ c.depth ≤ 20 ∧ c.size ≤ 60 ∧
  ∀ (H' : Hp), Same H H' → Q .non H'
theorem disp_bounded (T : TParts K mg cl) : DispAt P w K mg base CX0 (fun C => C = cl.tn ∨ C = cl.sr ∨ C = cl.br) "bounded" 22 ["self"] (spBounded cl) := by
  have G_size : DispAt P w K mg base CX0 cl.has "size" 21 ["self"] (spSize cl 20) := disp_size T 20
  have G_depth : DispAt P w K mg base CX0 cl.has "depth" 21 ["self"] (spDepth cl 20) := disp_depth T 20
  refine ⟨fun C hC => ?_⟩
  have hC' : cl.has C := by
    rcases hC with rfl | rfl | rfl
    · exact .inr (.inr (.inl rfl))
    · exact .inr (.inr (.inr (.inl rfl)))
    · exact .inr (.inr (.inr (.inr rfl)))
  have D : MethAt K C "bounded" "Part.bounded" s_Part_bounded ["self"] := by
    rcases hC with rfl | rfl | rfl
    · exact T.m_bounded_tn
    · exact T.m_bounded_sr
    · exact T.m_bounded_br
  refine methAt_ok (T.cls hC') D sc_Part_bounded (fun vs H Q E h => ?_) (fun f cdv A outer s H vs Q E hr h => ?_)
  · obtain ⟨a, dx, fs, c, rfl, _⟩ := h; rfl
  · obtain ⟨a, dx, fs, c, rfl, ha, p, hd, hz, q⟩ := h
    refine ⟨_, (pss_one (ps_if (PW.pt (pw_or (pt_cmpR op_gt (pe_methD0 G_size hr pass0 (pv 0)) (pe_gc T.g_MOST_SIZE) (nomark _)) (pw_or1 (pt_cmpR op_gt (pe_methD0 G_depth hr pass0 (pv 0)) (pe_gc T.g_MOST_DEEP) (nomark _))))) (pss_one ps_never) pss_nil)), ?_⟩
    refine ⟨_, rfl, a, C, dx, fs, rfl, ha, hC', look_of (by decide +kernel) ha p, a, dx, fs, c, rfl, ha, p, hd, by omega, fun H1 s1 => ?_⟩
    refine ⟨_, _, rfl, rfl, _, rfl, ?_⟩
    rw [decide_eq_false (show ¬ (60 : Int) < (c.size : Int) by omega)]
    have ha1 := s1 _ _ ha
    have p1 := p.mono (Same.imm (T := cl.has) s1)
    refine iteF ⟨_, rfl, a, C, dx, fs, rfl, ha1, hC', look_of (by decide +kernel) ha p, a, dx, fs, c, rfl, ha1, p1, hd, by omega, fun H2 s2 => ?_⟩
    refine ⟨_, _, rfl, rfl, _, rfl, ?_⟩
    rw [decide_eq_false (show ¬ (20 : Int) < (c.depth : Int) by omega)]
    exact iteF (q _ (s1.trans s2))
end

/-! ## parts: made -/
abbrev s_Fixed___init__ : Stmt := inClass (top 15) 0
theorem sc_Fixed___init__ : FnScope ["self", "value"] ["self", "value"] (defScope s_Fixed___init__) := ⟨rfl, rfl, rfl, by decide +kernel, rfl, by decide +kernel, by decide +kernel⟩
abbrev s_Contact___init__ : Stmt := inClass (top 16) 0
theorem sc_Contact___init__ : FnScope ["self", "name"] ["self", "name"] (defScope s_Contact___init__) := ⟨rfl, rfl, rfl, by decide +kernel, rfl, by decide +kernel, by decide +kernel⟩
abbrev s_Turned___init__ : Stmt := inClass (top 17) 0
theorem sc_Turned___init__ : FnScope ["self", "part"] ["self", "part"] (defScope s_Turned___init__) := ⟨rfl, rfl, rfl, by decide +kernel, rfl, by decide +kernel, by decide +kernel⟩
abbrev s_Group___init__ : Stmt := inClass (top 18) 0
theorem sc_Group___init__ : FnScope ["self", "parts"] ["self", "parts"] (defScope s_Group___init__) := ⟨rfl, rfl, rfl, by decide +kernel, rfl, by decide +kernel, by decide +kernel⟩
structure TMake (K : PySem.W.Frag) (mg : Str → Option Value) (cl : Cl) : Prop where
  names : TNames K mg
  parts : TParts K mg cl
  i_fx : MethAt K cl.fx "__init__" "Fixed.__init__" s_Fixed___init__ ["self", "value"]
  i_ct : MethAt K cl.ct "__init__" "Contact.__init__" s_Contact___init__ ["self", "name"]
  i_tn : MethAt K cl.tn "__init__" "Turned.__init__" s_Turned___init__ ["self", "part"]
  i_sr : MethAt K cl.sr "__init__" "Group.__init__" s_Group___init__ ["self", "parts"]
  i_br : MethAt K cl.br "__init__" "Group.__init__" s_Group___init__ ["self", "parts"]
  z_len : mg "len" = none
  z_tuple : mg "tuple" = none
section
variable {P : Program} {w : World} {K : PySem.W.Frag} {mg : Str → Option Value} {base : Heap} {cl : Cl}
/-- a new instance and its dict: what was tracked stays -/
theorem same_make {H : Hp} {x dx C : Addr} {fs : List (Str × V)} (nx : H x = none) (nd : H dx = none) : Same H (upd (upd H dx (.own x)) x (.ins C dx fs)) := fun b o e => by
  rw [upd_ne (ne_of_none e nx), upd_ne (ne_of_none e nd)]
  exact e
def spInitFx (cl : Cl) : Sp := fun vs H Q _ => ∃ (x dx : Addr) (b : Bool), vs = [.ref x, .bl b] ∧ H x = some (.ins cl.fx dx []) ∧ ∀ H' : Hp, H' x = some (.ins cl.fx dx [("value", .bl b)]) → But x H H' → Q .non H'
def spInitCt (cl : Cl) : Sp := fun vs H Q _ => ∃ (x dx : Addr) (n : Str), vs = [.ref x, .str n] ∧ H x = some (.ins cl.ct dx []) ∧ n.length ≤ sizeLine ∧ isName n = true ∧ ∀ H' : Hp, H' x = some (.ins cl.ct dx [("name", .str n)]) → But x H H' → Q .non H'
def spInitTn (cl : Cl) : Sp := fun vs H Q _ => ∃ (H0 : Hp) (x dx : Addr) (v : V) (c : Cond), vs = [.ref x, v] ∧ H x = some (.ins cl.tn dx []) ∧ Same H0 H ∧ H0 x = none ∧ IsP cl H0 v c ∧ c.size ≤ 59 ∧ c.depth ≤ 19 ∧
  ∀ H' : Hp, Same H0 H' → IsP cl H' (.ref x) (.not c) → Q .non H'
def spInitGr (cl : Cl) (s : Bool) : Sp := fun vs H Q _ => ∃ (H0 : Hp) (x dx l : Addr) (ws : List V) (cs : List Cond), vs = [.ref x, .ref l] ∧ H x = some (.ins (cl.gr s) dx []) ∧ Same H0 H ∧ H0 x = none ∧ H0 l = some (.lst ws) ∧ IsPs cl H0 ws cs ∧ 2 ≤ cs.length ∧ Cond.sizes cs ≤ 59 ∧ Cond.depths cs ≤ 19 ∧
  ∀ H' : Hp, Same H0 H' → IsP cl H' (.ref x) (.grp s cs) → Q .non H'
theorem ok_init_fx (T : TMake K mg cl) : MakAt P w K mg base CX0 "Fixed" cl.fx 1 ["self", "value"] (spInitFx cl) := by
  refine makAt_of T.parts.c_Fixed (methAt_ok T.parts.c_Fixed.cl T.i_fx sc_Fixed___init__ (fun vs H Q E h => ?_) (fun f cdv A outer s H vs Q E hr h => ?_))
  · obtain ⟨x, dx, b, rfl, _⟩ := h; rfl
  · obtain ⟨x, dx, b, rfl, hx, q⟩ := h
    refine ⟨_, (pss_one (ps_fld (pv 0) (pv 1) rfl)), ?_⟩
    refine ⟨_, rfl, _, rfl, x, _, dx, [], rfl, hx, T.parts.c_Fixed.cl, T.parts.nv_fx, (by show 0 < 1000; decide), ?_⟩
    exact q _ upd_same But.upd
theorem ok_init_ct (T : TMake K mg cl) : MakAt P w K mg base CX0 "Contact" cl.ct 3 ["self", "name"] (spInitCt cl) := by
  have G_is_name : FnAt P w K mg base CX0 "is_name" 2 _ spIsName := ok_is_name T.names
  refine makAt_of T.parts.c_Contact (methAt_ok T.parts.c_Contact.cl T.i_ct sc_Contact___init__ (fun vs H Q E h => ?_) (fun f cdv A outer s H vs Q E hr h => ?_))
  · obtain ⟨x, dx, n, rfl, _⟩ := h; rfl
  · obtain ⟨x, dx, n, rfl, hx, hl, hn, q⟩ := h
    refine ⟨_, (pss_cons (ps_if (pt_not (pt_val (pe_callF G_is_name hr pass0 (pa_cons (pv 1) pa_nil)))) (pss_one ps_never) pss_nil)
        (pss_one (ps_fld (pv 0) (pv 1) rfl))), ?_⟩
    refine ⟨_, rfl, n, rfl, hl, ?_⟩
    rw [hn]
    refine ⟨true, rfl, iteF ?_⟩
    refine ⟨_, rfl, _, rfl, x, _, dx, [], rfl, hx, T.parts.c_Contact.cl, T.parts.nn_ct, (by show 0 < 1000; decide), ?_⟩
    exact q _ upd_same But.upd
theorem ok_init_tn (T : TMake K mg cl) : MakAt P w K mg base CX0 "Turned" cl.tn 23 ["self", "part"] (spInitTn cl) := by
  have G_bounded : DispAt P w K mg base CX0 (fun C => C = cl.tn ∨ C = cl.sr ∨ C = cl.br) "bounded" 22 ["self"] (spBounded cl) := disp_bounded T.parts
  refine makAt_of T.parts.c_Turned (methAt_ok T.parts.c_Turned.cl T.i_tn sc_Turned___init__ (fun vs H Q E h => ?_) (fun f cdv A outer s H vs Q E hr h => ?_))
  · obtain ⟨H0, x, dx, v, c, rfl, _⟩ := h; rfl
  · obtain ⟨H0, x, dx, v, c, rfl, hx, s0, n0, p, hz, hd, q⟩ := h
    refine ⟨_, (pss_cons (ps_fld (pv 0) (pv 1) rfl)
        (pss_one (ps_expr (pe_methD0 G_bounded hr pass0 (pv 0))))), ?_⟩
    refine ⟨_, rfl, _, rfl, x, _, dx, [], rfl, hx, T.parts.c_Turned.cl, T.parts.np_tn, (by show 0 < 1000; decide), ?_⟩
    have s1 : Same H0 (upd H x (.ins cl.tn dx (putF "part" v []))) := Same.mut s0 n0
    have p1 : IsP cl (upd H x (.ins cl.tn dx (putF "part" v []))) (.ref x) (.not c) := .not upd_same (p.mono (Same.imm s1))
    refine ⟨_, rfl, x, _, dx, _, rfl, upd_same, .inl rfl, lk1 (by decide +kernel), x, dx, _, .not c, rfl, upd_same, p1, ?_, ?_, fun H2 s2 => ?_⟩
    · rw [Cond.depth]; omega
    · rw [Cond.size]; omega
    · exact q _ (s1.trans s2) (p1.mono (Same.imm s2))
theorem ok_init_gr (T : TMake K mg cl) (s : Bool) {nm : Str} (c : ClsAt K mg nm (cl.gr s)) (D : MethAt K (cl.gr s) "__init__" "Group.__init__" s_Group___init__ ["self", "parts"]) : MakAt P w K mg base CX0 nm (cl.gr s) 23 ["self", "parts"] (spInitGr cl s) := by
  have G_bounded : DispAt P w K mg base CX0 (fun C => C = cl.tn ∨ C = cl.sr ∨ C = cl.br) "bounded" 22 ["self"] (spBounded cl) := disp_bounded T.parts
  refine makAt_of c (methAt_ok c.cl D sc_Group___init__ (fun vs H Q E h => ?_) (fun f cdv A outer st H vs Q E hr h => ?_))
  · obtain ⟨H0, x, dx, l, ws, cs, rfl, _⟩ := h; rfl
  · obtain ⟨H0, x, dx, l, ws, cs, rfl, hx, s0, n0, hl, ps, h2, hz, hd, q⟩ := h
    have hlen := ps.length
    refine ⟨_, (pss_cons (ps_if (pt_cmpR op_lt (pe_callB call_len_seq (by rfl) T.z_len PySem.boot_len (pa_cons (pv 1) pa_nil)) pe_int (nomark _)) (pss_one ps_never) pss_nil)
        (pss_cons (ps_fld (pv 0) (pe_callTy call_tuple_of (by rfl) T.z_tuple (by decide +kernel) (pa_cons (pv 1) pa_nil)) rfl)
        (pss_one (ps_expr (pe_methD0 G_bounded hr pass0 (pv 0)))))), ?_⟩
    refine ⟨_, rfl, l, ws, rfl, .inl (SqL.of (s0 _ _ hl)), _, _, rfl, rfl, _, rfl, ?_⟩
    rw [decide_eq_false (show ¬ ((ws.length : Int) < 2) by omega)]
    refine iteF ⟨_, rfl, l, ws, rfl, .inl ⟨SqL.of (s0 _ _ hl), fun t nt => ?_⟩⟩
    have hx1 : upd H t (.tup ws) x = some (.ins (cl.gr s) dx []) := Same.new nt _ _ hx
    have ntx : t ≠ x := (ne_of_none hx nt).symm
    refine ⟨_, rfl, x, _, dx, [], rfl, hx1, T.parts.cls (cl.has_gr s), T.parts.np s, (by show 0 < 1000; decide), ?_⟩
    have s1 : Same H0 (upd (upd H t (.tup ws)) x (.ins (cl.gr s) dx (putF "parts" (.ref t) []))) := Same.mut (s0.trans (Same.new nt)) n0
    have p1 : IsP cl (upd (upd H t (.tup ws)) x (.ins (cl.gr s) dx (putF "parts" (.ref t) []))) (.ref x) (.grp s cs) := .grp upd_same (by rw [upd_ne ntx, upd_same]) (ps.mono (Same.imm s1))
    refine ⟨_, rfl, x, _, dx, _, rfl, upd_same, (by cases s; exact .inr (.inr rfl); exact .inr (.inl rfl)), lk1 (by decide +kernel), x, dx, _, .grp s cs, rfl, upd_same, p1, ?_, ?_, fun H2 s2 => ?_⟩
    · rw [Cond.depth]; omega
    · rw [Cond.size]; omega
    · exact q _ (s1.trans s2) (p1.mono (Same.imm s2))
/-! ### what making asks -/
theorem mk_fx {H : Hp} {b : Bool} {Q : VK} {E : XK} (k : ∀ H' x, Same H H' → IsP cl H' (.ref x) (.fixed b) → Q (.ref x) H') : ∀ x dx, H x = none → H dx = none → dx ≠ x → spInitFx cl (.ref x :: ([.bl b] ++ [])) (upd (upd H dx (.own x)) x (.ins cl.fx dx [])) (fun v H' => v = .non ∧ Q (.ref x) H') E :=
  fun x dx nx nd ne => ⟨x, dx, b, rfl, upd_same, fun H' h1 h2 => ⟨rfl, k H' x (fun c o e => h2 c o (same_make nx nd c o e) (ne_of_none e nx)) (.fixed h1)⟩⟩
theorem mk_ct {H : Hp} {n : Str} {Q : VK} {E : XK} (hl : n.length ≤ sizeLine) (hn : isName n = true) (k : ∀ H' x, Same H H' → IsP cl H' (.ref x) (.contact n) → Q (.ref x) H') : ∀ x dx, H x = none → H dx = none → dx ≠ x → spInitCt cl (.ref x :: ([.str n] ++ [])) (upd (upd H dx (.own x)) x (.ins cl.ct dx [])) (fun v H' => v = .non ∧ Q (.ref x) H') E :=
  fun x dx nx nd ne => ⟨x, dx, n, rfl, upd_same, hl, hn, fun H' h1 h2 => ⟨rfl, k H' x (fun c o e => h2 c o (same_make nx nd c o e) (ne_of_none e nx)) (.contact h1)⟩⟩
theorem mk_tn {H : Hp} {v : V} {c : Cond} {Q : VK} {E : XK} (p : IsP cl H v c) (hz : c.size ≤ 59) (hd : c.depth ≤ 19) (k : ∀ H' x, Same H H' → IsP cl H' (.ref x) (.not c) → Q (.ref x) H') : ∀ x dx, H x = none → H dx = none → dx ≠ x → spInitTn cl (.ref x :: ([v] ++ [])) (upd (upd H dx (.own x)) x (.ins cl.tn dx [])) (fun v H' => v = .non ∧ Q (.ref x) H') E :=
  fun x dx nx nd ne => ⟨H, x, dx, v, c, rfl, upd_same, same_make nx nd, nx, p, hz, hd, fun H' h1 h2 => ⟨rfl, k H' x h1 h2⟩⟩
theorem mk_gr {H : Hp} {s : Bool} {l : Addr} {ws : List V} {cs : List Cond} {Q : VK} {E : XK} (hl : H l = some (.lst ws)) (p : IsPs cl H ws cs) (h2 : 2 ≤ cs.length) (hz : Cond.sizes cs ≤ 59) (hd : Cond.depths cs ≤ 19) (k : ∀ H' x, Same H H' → IsP cl H' (.ref x) (.grp s cs) → Q (.ref x) H') :
    ∀ x dx, H x = none → H dx = none → dx ≠ x → spInitGr cl s (.ref x :: ([.ref l] ++ [])) (upd (upd H dx (.own x)) x (.ins (cl.gr s) dx [])) (fun v H' => v = .non ∧ Q (.ref x) H') E :=
  fun x dx nx nd ne => ⟨H, x, dx, l, ws, cs, rfl, upd_same, same_make nx nd, nx, hl, p, h2, hz, hd, fun H' h1 h2 => ⟨rfl, k H' x h1 h2⟩⟩
end

/-! ## told -/
mutual
/-- at v stands the tuple that c tells -/
inductive IsT (H : Hp) : V → Cond → Prop
  | fixed {a : Addr} {b : Bool} (h : H a = some (.tup [.str "fixed", .bl b])) : IsT H (.ref a) (.fixed b)
  | contact {a : Addr} {n : Str} (h : H a = some (.tup [.str "contact", .str n])) : IsT H (.ref a) (.contact n)
  | not {a : Addr} {v : V} {c : Cond} (h : H a = some (.tup [.str "not", v])) (p : IsT H v c) : IsT H (.ref a) (.not c)
  | grp {a : Addr} {vs : List V} {s : Bool} {cs : List Cond} (h : H a = some (.tup (.str (word s) :: vs))) (p : IsTs H vs cs) : IsT H (.ref a) (.grp s cs)
inductive IsTs (H : Hp) : List V → List Cond → Prop
  | nil : IsTs H [] []
  | cons {v : V} {vs : List V} {c : Cond} {cs : List Cond} (h : IsT H v c) (t : IsTs H vs cs) : IsTs H (v :: vs) (c :: cs)
end
section
variable {T : Addr → Prop} {K : PySem.W.Frag} {H H' : Hp} {v : V} {vs : List V} {c : Cond} {cs : List Cond}
mutual
theorem IsT.mono (k : Imm T H H') : ∀ {v : V} {c : Cond}, IsT H v c → IsT H' v c
  | _, _, .fixed h => .fixed (k _ _ h trivial)
  | _, _, .contact h => .contact (k _ _ h trivial)
  | _, _, .not h p => .not (k _ _ h trivial) (p.mono k)
  | _, _, .grp h p => .grp (k _ _ h trivial) (p.mono k)
theorem IsTs.mono (k : Imm T H H') : ∀ {vs : List V} {cs : List Cond}, IsTs H vs cs → IsTs H' vs cs
  | _, _, .nil => .nil
  | _, _, .cons p t => .cons (p.mono k) (t.mono k)
end
mutual
theorem IsT.dp : ∀ {v : V} {c : Cond}, IsT H v c → Dp K H v c.told
  | _, _, .fixed h => .tup (SqT.of h) (.cons (.str _) (.cons (.bl _) .nil))
  | _, _, .contact h => .tup (SqT.of h) (.cons (.str _) (.cons (.str _) .nil))
  | _, _, .not h p => .tup (SqT.of h) (.cons (.str _) (.cons p.dp .nil))
  | _, _, .grp h p => .tup (SqT.of h) (.cons (.str _) p.dp)
theorem IsTs.dp : ∀ {vs : List V} {cs : List Cond}, IsTs H vs cs → DpAll K H vs (Cond.tolds cs)
  | _, _, .nil => .nil
  | _, _, .cons p t => .cons p.dp t.dp
end
theorem IsTs.length : ∀ {vs : List V} {cs : List Cond}, IsTs H vs cs → vs.length = cs.length
  | _, _, .nil => rfl
  | _, _, .cons _ t => by rw [List.length_cons, List.length_cons, IsTs.length t]
theorem IsTs.at : ∀ {vs : List V} {cs : List Cond} {i : Nat} {v : V}, IsTs H vs cs → vs[i]? = some v → ∃ c, cs[i]? = some c ∧ IsT H v c
  | _, _, i, v, .nil, h => by simp at h
  | _, _, 0, v, .cons p t, h => by
    simp at h
    subst h
    exact ⟨_, rfl, p⟩
  | _, _, i + 1, v, .cons p t, h => by
    obtain ⟨c, h1, h2⟩ := IsTs.at (i := i) (v := v) t (by simpa using h)
    exact ⟨c, by simpa using h1, h2⟩
theorem IsTs.snoc : ∀ {vs : List V} {cs : List Cond} {v : V} {c : Cond}, IsTs H vs cs → IsT H v c → IsTs H (vs ++ [v]) (cs ++ [c])
  | _, _, _, _, .nil, p => .cons p .nil
  | _, _, _, _, .cons q t, p => .cons q (t.snoc p)
theorem IsT.ref (p : IsT H v c) : ∃ a xs, v = .ref a ∧ H a = some (.tup xs) := by
  cases p with
  | fixed h => exact ⟨_, _, rfl, h⟩
  | contact h => exact ⟨_, _, rfl, h⟩
  | not h _ => exact ⟨_, _, rfl, h⟩
  | grp h _ => exact ⟨_, _, rfl, h⟩
end
abbrev s_Fixed_told : Stmt := inClass (top 15) 2
theorem sc_Fixed_told : FnScope ["self"] ["self"] (defScope s_Fixed_told) := ⟨rfl, rfl, rfl, by decide +kernel, rfl, by decide +kernel, by decide +kernel⟩
abbrev s_Contact_told : Stmt := inClass (top 16) 2
theorem sc_Contact_told : FnScope ["self"] ["self"] (defScope s_Contact_told) := ⟨rfl, rfl, rfl, by decide +kernel, rfl, by decide +kernel, by decide +kernel⟩
abbrev s_Turned_told : Stmt := inClass (top 17) 3
theorem sc_Turned_told : FnScope ["self"] ["self"] (defScope s_Turned_told) := ⟨rfl, rfl, rfl, by decide +kernel, rfl, by decide +kernel, by decide +kernel⟩
abbrev s_Group_told : Stmt := inClass (top 18) 4
theorem sc_Group_told : FnScope ["self", "part"] ["self"] (defScope s_Group_told) := ⟨rfl, rfl, rfl, by decide +kernel, rfl, by decide +kernel, by decide +kernel⟩
abbrev s_Series_word : Stmt := inClass (top 19) 1
theorem sc_Series_word : FnScope ["self"] ["self"] (defScope s_Series_word) := ⟨rfl, rfl, rfl, by decide +kernel, rfl, by decide +kernel, by decide +kernel⟩
abbrev s_Branch_word : Stmt := inClass (top 20) 1
theorem sc_Branch_word : FnScope ["self"] ["self"] (defScope s_Branch_word) := ⟨rfl, rfl, rfl, by decide +kernel, rfl, by decide +kernel, by decide +kernel⟩
structure TTold (K : PySem.W.Frag) (mg : Str → Option Value) (cl : Cl) : Prop where
  parts : TParts K mg cl
  m_told_fx : MethAt K cl.fx "told" "Fixed.told" s_Fixed_told ["self"]
  m_told_ct : MethAt K cl.ct "told" "Contact.told" s_Contact_told ["self"]
  m_told_tn : MethAt K cl.tn "told" "Turned.told" s_Turned_told ["self"]
  m_told_sr : MethAt K cl.sr "told" "Group.told" s_Group_told ["self"]
  m_told_br : MethAt K cl.br "told" "Group.told" s_Group_told ["self"]
  m_word_sr : MethAt K cl.sr "word" "Series.word" s_Series_word ["self"]
  m_word_br : MethAt K cl.br "word" "Branch.word" s_Branch_word ["self"]
  z_tuple : mg "tuple" = none
section
variable {P : Program} {w : World} {K : PySem.W.Frag} {mg : Str → Option Value} {base : Heap} {cl : Cl}
def Cl.grp (cl : Cl) (C : Addr) : Prop := C = cl.sr ∨ C = cl.br
theorem Cl.grp_gr (cl : Cl) (s : Bool) : cl.grp (cl.gr s) := by
  cases s
  · exact .inr rfl
  · exact .inl rfl
theorem TParts.srbr (T : TParts K mg cl) : cl.sr ≠ cl.br := by
  have nd := T.nd
  simp only [List.nodup_cons, List.mem_cons, List.not_mem_nil, or_false, not_or] at nd
  exact nd.2.2.2.1
def spWordM (cl : Cl) (C : Addr) : Sp := fun vs H Q _ => ∃ (a dx : Addr) (fs : List (Str × V)) (s : Bool), vs = [.ref a] ∧ H a = some (.ins C dx fs) ∧ C = cl.gr s ∧ Q (.str (word s)) H
theorem disp_word (T : TTold K mg cl) : DispAt P w K mg base CX0 cl.grp "word" 1 ["self"] (spWordM cl) := by
  refine ⟨fun C hC => ?_⟩
  rcases hC with rfl | rfl
  · refine methAt_ok T.parts.c_Series.cl T.m_word_sr sc_Series_word (fun vs H Q E h => ?_) (fun f cdv A outer st H vs Q E hr h => ?_)
    · obtain ⟨a, dx, fs, s, rfl, _⟩ := h; rfl
    · obtain ⟨a, dx, fs, s, rfl, ha, hs, q⟩ := h
      refine ⟨_, (pss_one (ps_ret pe_str)), ?_⟩
      cases s
      · exact absurd hs T.parts.srbr
      · exact q
  · refine methAt_ok T.parts.c_Branch.cl T.m_word_br sc_Branch_word (fun vs H Q E h => ?_) (fun f cdv A outer st H vs Q E hr h => ?_)
    · obtain ⟨a, dx, fs, s, rfl, _⟩ := h; rfl
    · obtain ⟨a, dx, fs, s, rfl, ha, hs, q⟩ := h
      refine ⟨_, (pss_one (ps_ret pe_str)), ?_⟩
      cases s
      · exact q
      · exact absurd hs.symm T.parts.srbr
def spTold (cl : Cl) (n : Nat) (C : Addr) : Sp := fun vs H Q _ => ∃ (a dx : Addr) (fs : List (Str × V)) (c : Cond), vs = [.ref a] ∧ H a = some (.ins C dx fs) ∧ IsP cl H (.ref a) c ∧ c.depth ≤ n ∧ c.size ≤ 1000 ∧
  ∀ (H' : Hp) (v : V), Same H H' → IsT H' v c → Q v H'
theorem ok_told_fx (T : TTold K mg cl) (n : Nat) : ∃ f fd, Cls K cl.fx ∧ Meth K cl.fx "told" f ∧ Binds K fd ["self"] [] ∧ FnOk P w K mg base CX0 1 f fd ["self"] (spTold cl n cl.fx) := by
  refine methAt_ok T.parts.c_Fixed.cl T.m_told_fx sc_Fixed_told (fun vs H Q E h => ?_) (fun f cdv A outer st H vs Q E hr h => ?_)
  · obtain ⟨a, dx, fs, c, rfl, _⟩ := h; rfl
  · obtain ⟨a, dx, fs, c, rfl, ha, p, hd, hz, q⟩ := h
    obtain ⟨b, rfl, rfl⟩ := inv_fx T.parts.nd ha p
    refine ⟨_, (pss_one (ps_ret (pe_tup (pa_cons pe_str (pa_cons (pe_fld (pv 0) rfl) pa_nil))))), ?_⟩
    refine ⟨_, rfl, a, _, dx, _, _, rfl, ha, T.parts.c_Fixed.cl, T.parts.nv_fx, lk1s, line_ge (by simp), fun t nt => ?_⟩
    exact q _ _ (Same.new nt) (.fixed upd_same)
theorem ok_told_ct (T : TTold K mg cl) (n : Nat) : ∃ f fd, Cls K cl.ct ∧ Meth K cl.ct "told" f ∧ Binds K fd ["self"] [] ∧ FnOk P w K mg base CX0 1 f fd ["self"] (spTold cl n cl.ct) := by
  refine methAt_ok T.parts.c_Contact.cl T.m_told_ct sc_Contact_told (fun vs H Q E h => ?_) (fun f cdv A outer st H vs Q E hr h => ?_)
  · obtain ⟨a, dx, fs, c, rfl, _⟩ := h; rfl
  · obtain ⟨a, dx, fs, c, rfl, ha, p, hd, hz, q⟩ := h
    obtain ⟨b, rfl, rfl⟩ := inv_ct T.parts.nd ha p
    refine ⟨_, (pss_one (ps_ret (pe_tup (pa_cons pe_str (pa_cons (pe_fld (pv 0) rfl) pa_nil))))), ?_⟩
    refine ⟨_, rfl, a, _, dx, _, _, rfl, ha, T.parts.c_Contact.cl, T.parts.nn_ct, lk1s, line_ge (by simp), fun t nt => ?_⟩
    exact q _ _ (Same.new nt) (.contact upd_same)
theorem ok_told_tn (T : TTold K mg cl) {n k : Nat} (G_told : DispAt P w K mg base CX0 cl.has "told" k ["self"] (spTold cl n)) :
    ∃ f fd, Cls K cl.tn ∧ Meth K cl.tn "told" f ∧ Binds K fd ["self"] [] ∧ FnOk P w K mg base CX0 (k + 1) f fd ["self"] (spTold cl (n + 1) cl.tn) := by
  refine methAt_ok T.parts.c_Turned.cl T.m_told_tn sc_Turned_told (fun vs H Q E h => ?_) (fun f cdv A outer st H vs Q E hr h => ?_)
  · obtain ⟨a, dx, fs, c, rfl, _⟩ := h; rfl
  · obtain ⟨a, dx, fs, c, rfl, ha, p, hd, hz, q⟩ := h
    obtain ⟨v, c', rfl, rfl, p'⟩ := inv_tn T.parts.nd ha p
    rw [Cond.depth] at hd
    rw [Cond.size] at hz
    refine ⟨_, (pss_one (ps_ret (pe_tup (pa_cons pe_str (pa_cons (pe_methD0 G_told hr pass0 (pe_fld (pv 0) rfl) (Nat.le_refl _)) pa_nil))))), ?_⟩
    obtain ⟨a', C', dx', fs', rfl, ha', hC', hl'⟩ := meth_of (m := "told") (by decide +kernel) p'
    refine ⟨_, rfl, a, _, dx, _, _, rfl, ha, T.parts.c_Turned.cl, T.parts.np_tn, lk1s, a', C', dx', fs', rfl, ha', hC', hl', a', dx', fs', c', rfl, ha', p', by omega, by omega, fun H1 v s1 ht => ?_⟩
    refine ⟨line_ge (by simp), fun t nt => ?_⟩
    exact q _ _ (s1.trans (Same.new nt)) (.not upd_same (ht.mono (T := cl.has) (Imm.new nt)))
theorem ok_told_gr (T : TTold K mg cl) {n k : Nat} (G_told : DispAt P w K mg base CX0 cl.has "told" k ["self"] (spTold cl n)) (hk : 1 ≤ k) (s : Bool) (D : MethAt K (cl.gr s) "told" "Group.told" s_Group_told ["self"]) :
    ∃ f fd, Cls K (cl.gr s) ∧ Meth K (cl.gr s) "told" f ∧ Binds K fd ["self"] [] ∧ FnOk P w K mg base CX0 (k + 1) f fd ["self"] (spTold cl (n + 1) (cl.gr s)) := by
  have G_word : DispAt P w K mg base CX0 cl.grp "word" 1 ["self"] (spWordM cl) := disp_word T
  refine methAt_ok (T.parts.cls (cl.has_gr s)) D sc_Group_told (fun vs H Q E h => ?_) (fun f cdv A outer st H vs Q E hr h => ?_)
  · obtain ⟨a, dx, fs, c, rfl, _⟩ := h; rfl
  · obtain ⟨a, dx, fs, c, rfl, ha, p, hd, hz, q⟩ := h
    obtain ⟨t, ws, cs, rfl, rfl, ht, ps⟩ := inv_gr T.parts.nd rfl ha p
    rw [Cond.depth] at hd
    rw [Cond.size] at hz
    have hlen := ps.length
    have hz2 := Cond.len_sizes cs
    refine ⟨_, (pss_one (ps_ret (pe_op op_catT (pe_tup (pa_cons (pe_methD0 G_word hr pass0 (pv 0) hk) pa_nil)) (pe_callTy call_tuple_of (by rfl) T.z_tuple (by decide +kernel) (pa_cons (pe_lc (own := [("part", 1)]) (g := gName 1) (tt := tYes) rfl sc_Group_told.nd (pi_tup (pe_fld (pv 0) rfl)) (blkOk_by (own := [("part", 1)]) (N := ["self", "part"]) (sc := defScope s_Group_told) (by decide +kernel)) (fun _ _ _ _ _ => pg_name (i := 1) sc_Group_told.nd rfl (Or.inl rfl)) (fun _ _ _ _ _ => pts_nil) (fun _ _ _ _ _ => (pe_methD0 G_told hr pass0 (pv 1) (Nat.le_refl _)))) pa_nil))))), ?_⟩
    refine ⟨_, rfl, a, _, dx, _, rfl, ha, cl.grp_gr s, lk1 (by decide +kernel), a, dx, _, s, rfl, ha, rfl, line_ge (by simp), fun t1 nt1 => ?_⟩
    have ha1 := Same.new nt1 (o := .tup [.str (word s)]) _ _ ha
    refine ⟨_, rfl, a, _, dx, _, _, rfl, ha1, T.parts.cls (cl.has_gr s), T.parts.np s, lk1s, ?_⟩
    have ht1 := Same.new nt1 (o := .tup [.str (word s)]) _ _ ht
    refine ⟨t, rfl, ⟨_, SqT.of ht1⟩, fun D nD => lc_tup (K := K) (a := t) (xs := ws) (fun i H' => Same (upd H t1 (.tup [.str (word s)])) H' ∧ ∃ vs, H' D = some (.lst vs) ∧ IsTs H' vs (cs.take i))
      ⟨Same.new nD, [], upd_same, by simpa using .nil⟩ (fun i H' _ q => SqT.of (q.1 _ _ ht1)) ?_ ?_⟩
    · rintro i y H2 hy ⟨q1, vs, q2, q3⟩
      obtain ⟨c', hc', p'⟩ := (ps.mono (Same.imm ((Same.new nt1).trans q1))).at hy
      obtain ⟨a', C', dx', fs', rfl, ha', hC', hl'⟩ := meth_of (m := "told") (by decide +kernel) p'
      have hm := List.mem_of_getElem? hc'
      have h1 := Cond.depth_mem hm
      have h2 := Cond.size_mem hm
      refine ⟨rfl, _, rfl, a', C', dx', fs', rfl, ha', hC', hl', a', dx', fs', c', rfl, ha', p', by omega, by omega, fun H3 v s3 hv => ?_⟩
      have q2' := s3 _ _ q2
      have hl := q3.length
      rw [List.length_take] at hl
      refine ⟨vs, q2', by rw [sizeLine_eq]; omega, Same.mut (q1.trans s3) nD, vs ++ [v], upd_same, ?_⟩
      have im : Imm cl.has H3 (upd H3 D (.lst (vs ++ [v]))) := Imm.mut q2' id
      rw [List.take_succ, hc']
      exact ((q3.mono (T := cl.has) (Same.imm s3)).mono im).snoc (hv.mono im)
    · rintro H2 ⟨q1, vs, q2, q3⟩
      rw [hlen, List.take_of_length_le (Nat.le_refl _)] at q3
      have hl := q3.length
      refine ⟨D, vs, rfl, .inl ⟨SqL.of q2, fun t2 nt2 => ?_⟩⟩
      have h1 : upd H2 t2 (.tup vs) t1 = some (.tup [.str (word s)]) := Same.new nt2 _ _ (q1 _ _ upd_same)
      have s2 : Same H (upd H2 t2 (.tup vs)) := ((Same.new nt1).trans q1).trans (Same.new nt2)
      have q4 : IsTs (upd H2 t2 (.tup vs)) vs cs := q3.mono (T := cl.has) (Imm.new nt2)
      refine ⟨t1, t2, _, _, rfl, rfl, SqT.of h1, SqT.of upd_same, by simp, line_ge (by simp; omega), fun e => ?_, fun _ t3 nt3 => ?_⟩
      · subst e
        have q4' := q4
        cases q4'
        exact q _ _ s2 (.grp h1 .nil)
      · exact q _ _ (s2.trans (Same.new nt3)) (.grp upd_same (q4.mono (T := cl.has) (Imm.new nt3)))
theorem disp_told (T : TTold K mg cl) : ∀ n : Nat, DispAt P w K mg base CX0 cl.has "told" (n + 1) ["self"] (spTold cl n)
  | 0 => by
    refine ⟨fun C hC => ?_⟩
    have vac : ∀ C vs H Q E, spTold cl 0 C vs H Q E → False := by
      rintro C vs H Q E ⟨a, dx, fs, c, rfl, ha, p, hd, _⟩
      exact absurd c.depth_pos (by omega)
    rcases hC with rfl | rfl | rfl | rfl | rfl
    · exact ok_told_fx T 0
    · exact ok_told_ct T 0
    all_goals
      refine methAt_ok (T.parts.cls (by simp [Cl.has])) (by first | exact T.m_told_tn | exact T.m_told_sr | exact T.m_told_br) (by first | exact sc_Turned_told | exact sc_Group_told) (fun vs H Q E h => (vac _ _ _ _ _ h).elim) (fun f cdv A outer s H vs Q E hr h => (vac _ _ _ _ _ h).elim)
  | n + 1 => by
    have ih := disp_told T n
    refine ⟨fun C hC => ?_⟩
    rcases hC with rfl | rfl | rfl | rfl | rfl
    · obtain ⟨f, fd, h1, h2, h3, h4⟩ := ok_told_fx (P := P) (w := w) (base := base) T (n + 1)
      exact ⟨f, fd, h1, h2, h3, h4.mono (by omega)⟩
    · obtain ⟨f, fd, h1, h2, h3, h4⟩ := ok_told_ct (P := P) (w := w) (base := base) T (n + 1)
      exact ⟨f, fd, h1, h2, h3, h4.mono (by omega)⟩
    · exact ok_told_tn T ih
    · exact ok_told_gr T ih (by omega) true T.m_told_sr
    · exact ok_told_gr T ih (by omega) false T.m_told_br
end

/-! ## part_of -/
abbrev s_single : Stmt := top 22
theorem sc_single : FnScope ["told"] ["told"] (defScope s_single) := ⟨rfl, rfl, rfl, by decide +kernel, rfl, by decide +kernel, by decide +kernel⟩
abbrev s_joined : Stmt := top 23
theorem sc_joined : FnScope ["kind", "parts"] ["kind", "parts"] (defScope s_joined) := ⟨rfl, rfl, rfl, by decide +kernel, rfl, by decide +kernel, by decide +kernel⟩
abbrev s_part_of : Stmt := top 24
theorem sc_part_of : FnScope ["told", "opened", "found", "one", "parts", "is_single"] ["told"] (defScope s_part_of) := ⟨rfl, rfl, rfl, by decide +kernel, rfl, by decide +kernel, by decide +kernel⟩
structure TPartOf (K : PySem.W.Frag) (mg : Str → Option Value) (cl : Cl) : Prop where
  make : TMake K mg cl
  d_single : DefAt K mg "single" s_single ["told"]
  d_joined : DefAt K mg "joined" s_joined ["kind", "parts"]
  d_part_of : DefAt K mg "part_of" s_part_of ["told"]
  z_len : mg "len" = none
mutual
/-- names are names, groups have two parts or more -/
def Cond.ok : Cond → Bool
  | .fixed _ => true
  | .contact n => isName n
  | .not c => c.ok
  | .grp _ cs => decide (2 ≤ cs.length) && Cond.oks cs
def Cond.oks : List Cond → Bool
  | [] => true
  | c :: cs => c.ok && Cond.oks cs
end
theorem Cond.oks_mem : ∀ {cs : List Cond} {c : Cond}, Cond.oks cs = true → c ∈ cs → c.ok = true
  | x :: cs, c, h, m => by
    rw [Cond.oks, Bool.and_eq_true] at h
    rcases List.mem_cons.mp m with rfl | m
    · exact h.1
    · exact Cond.oks_mem h.2 m
theorem Cond.ok_kids {c : Cond} (h : c.ok = true) : Cond.oks c.kids = true := by
  cases c with
  | fixed b => rfl
  | contact n => rfl
  | not c => simpa [Cond.kids, Cond.oks, Cond.ok] using h
  | grp s cs =>
    rw [Cond.ok, Bool.and_eq_true] at h
    exact h.2
theorem isName_len {z : Str} (h : isName z = true) : z.length ≤ 8 := by
  unfold isName at h
  simp only [Bool.and_eq_true, decide_eq_true_eq] at h
  exact h.1.2
def Cond.single : Cond → Bool
  | .fixed _ => true
  | .contact _ => true
  | _ => false
section
variable {P : Program} {w : World} {K : PySem.W.Frag} {mg : Str → Option Value} {base : Heap} {cl : Cl}
def spSingle (cl : Cl) : Sp := fun vs H Q _ => ∃ (v : V) (c : Cond), vs = [v] ∧ IsT H v c ∧ c.single = true ∧ c.ok = true ∧ ∀ (H' : Hp) (x : Addr), Same H H' → IsP cl H' (.ref x) c → Q (.ref x) H'
theorem ok_single (T : TPartOf K mg cl) : FnAt P w K mg base CX0 "single" 5 ["told"] (spSingle cl) := by
  have M_Fixed : MakAt P w K mg base CX0 "Fixed" cl.fx 1 ["self", "value"] (spInitFx cl) := ok_init_fx T.make
  have M_Contact : MakAt P w K mg base CX0 "Contact" cl.ct 3 ["self", "name"] (spInitCt cl) := ok_init_ct T.make
  refine fnAt_ok T.d_single sc_single (fun vs H Q E h => ?_) (fun f cdv A outer s H vs Q E hr h => ?_)
  · obtain ⟨v, c, rfl, _⟩ := h; rfl
  · obtain ⟨v, c, rfl, ht, hs, hok, k⟩ := h
    refine ⟨_, (pss_one (ps_ret (pe_ifExp (pt_cmpR op_eq (pe_ix ix_tup (pv 0) pe_int (fun _ _ => rfl)) pe_str (nomark _)) (pe_makeF M_Fixed hr pass0 (pa_cons (pe_ix ix_tup (pv 0) pe_int (fun _ _ => rfl)) pa_nil)) (pe_makeF M_Contact hr pass0 (pa_cons (pe_ix ix_tup (pv 0) pe_int (fun _ _ => rfl)) pa_nil))))), ?_⟩
    cases ht with
    | @fixed t b h =>
      refine ⟨_, rfl, t, _, 0, .str "fixed", rfl, rfl, SqT.of h, rfl, rfl, _, rfl, ?_⟩
      rw [decide_eq_true rfl]
      refine iteT ⟨_, rfl, t, _, 1, .bl b, rfl, rfl, SqT.of h, rfl, ?_⟩
      exact mk_fx fun H' x s' p => k H' x s' p
    | @contact t n h =>
      refine ⟨_, rfl, t, _, 0, .str "contact", rfl, rfl, SqT.of h, rfl, rfl, _, rfl, ?_⟩
      rw [decide_eq_false (show ¬ (V.str "contact" = V.str "fixed") by decide +kernel)]
      refine iteF ⟨_, rfl, t, _, 1, .str n, rfl, rfl, SqT.of h, rfl, ?_⟩
      exact mk_ct (line_ge (Nat.le_trans (isName_len hok) (by decide))) hok fun H' x s' p => k H' x s' p
    | not h p => cases hs
    | grp h p => cases hs
def kindS : Cond → Str
  | .not _ => "not"
  | .grp s _ => word s
  | .fixed _ => "fixed"
  | .contact _ => "contact"
def spJoined (cl : Cl) : Sp := fun vs H Q _ => ∃ (l : Addr) (ws : List V) (c : Cond), vs = [.str (kindS c), .ref l] ∧ H l = some (.lst ws) ∧ c.single = false ∧ c.ok = true ∧ IsPs cl H ws c.kids ∧ c.size ≤ 60 ∧ c.depth ≤ 20 ∧
  ∀ (H' : Hp) (x : Addr), Same H H' → IsP cl H' (.ref x) c → Q (.ref x) H'
theorem ok_joined (T : TPartOf K mg cl) : FnAt P w K mg base CX0 "joined" 25 ["kind", "parts"] (spJoined cl) := by
  have M_Turned : MakAt P w K mg base CX0 "Turned" cl.tn 23 ["self", "part"] (spInitTn cl) := ok_init_tn T.make
  have M_Series : MakAt P w K mg base CX0 "Series" cl.sr 23 ["self", "parts"] (spInitGr cl true) := ok_init_gr T.make true T.make.parts.c_Series T.make.i_sr
  have M_Branch : MakAt P w K mg base CX0 "Branch" cl.br 23 ["self", "parts"] (spInitGr cl false) := ok_init_gr T.make false T.make.parts.c_Branch T.make.i_br
  refine fnAt_ok T.d_joined sc_joined (fun vs H Q E h => ?_) (fun f cdv A outer s H vs Q E hr h => ?_)
  · obtain ⟨l, ws, c, rfl, _⟩ := h; rfl
  · obtain ⟨l, ws, c, rfl, hl, hs, hok, ps, hz, hd, k⟩ := h
    refine ⟨_, (pss_cons (ps_if (pt_cmpR op_eq (pv 0) pe_str (nomark _)) (pss_one (ps_ret (pe_makeF M_Turned hr pass0 (pa_cons (pe_ix ix_list (pv 1) pe_int (fun _ _ => rfl)) pa_nil)))) pss_nil)
        (pss_cons (ps_if (pt_cmpR op_eq (pv 0) pe_str (nomark _)) (pss_one (ps_ret (pe_makeF M_Series hr pass0 (pa_cons (pv 1) pa_nil)))) pss_nil)
        (pss_one (ps_ret (pe_makeF M_Branch hr pass0 (pa_cons (pv 1) pa_nil)))))), ?_⟩
    cases c with
    | fixed b => cases hs
    | contact n => cases hs
    | not c =>
      rw [Cond.size] at hz
      rw [Cond.depth] at hd
      obtain ⟨v, rfl, p⟩ : ∃ v, ws = [v] ∧ IsP cl H v c := by
        cases ps with
        | cons p t => cases t; exact ⟨_, rfl, p⟩
      refine ⟨_, rfl, rfl, _, rfl, ?_⟩
      rw [decide_eq_true (show V.str (kindS (.not c)) = V.str "not" from rfl)]
      refine iteT ⟨_, rfl, l, _, 0, v, rfl, rfl, SqL.of hl, rfl, ?_⟩
      exact mk_tn p (by omega) (by omega) fun H' x s' p => k H' x s' p
    | grp s cs =>
      rw [Cond.size] at hz
      rw [Cond.depth] at hd
      rw [Cond.ok, Bool.and_eq_true, decide_eq_true_eq] at hok
      refine ⟨_, rfl, rfl, _, rfl, ?_⟩
      cases s with
      | true =>
        rw [decide_eq_false (show ¬ (V.str (kindS (.grp true cs)) = V.str "not") by show ¬ (V.str (Str.ofString "and") = V.str "not"); decide +kernel)]
        refine iteF ⟨_, rfl, rfl, _, rfl, ?_⟩
        rw [decide_eq_true (show V.str (kindS (.grp true cs)) = V.str "and" from rfl)]
        refine iteT ⟨_, rfl, ?_⟩
        exact mk_gr (cs := cs) hl ps hok.1 (by omega) (by omega) fun H' x s' p => k H' x s' p
      | false =>
        rw [decide_eq_false (show ¬ (V.str (kindS (.grp false cs)) = V.str "not") by show ¬ (V.str (Str.ofString "or") = V.str "not"); decide +kernel)]
        refine iteF ⟨_, rfl, rfl, _, rfl, ?_⟩
        rw [decide_eq_false (show ¬ (V.str (kindS (.grp false cs)) = V.str "and") by show ¬ (V.str (Str.ofString "or") = V.str "and"); decide +kernel)]
        refine iteF ⟨_, rfl, ?_⟩
        exact mk_gr (cs := cs) hl ps hok.1 (by omega) (by omega) fun H' x s' p => k H' x s' p
/-! ### the stack -/
/-- what is open: a condition, its parts that are made, the list that holds them -/
structure Frame where
  c : Cond
  ds : List Cond
  pl : Addr
structure Fr1 (cl : Cl) (H0 H : Hp) (v : V) (f : Frame) : Prop where
  ex : ∃ (tp t : Addr) (ws : List V), v = .ref tp ∧ H tp = some (.tup [.ref t, .ref f.pl]) ∧ IsT H (.ref t) f.c ∧ H f.pl = some (.lst ws) ∧ IsPs cl H ws f.ds
  new : H0 f.pl = none
  pre : f.ds = f.c.kids.take f.ds.length
  sz : f.c.size ≤ 60
  dp : f.c.depth ≤ 20
  ok : f.c.ok = true
inductive Stk (cl : Cl) (H0 H : Hp) (root : Cond) : List V → List Frame → Prop
  | one {v : V} {f : Frame} (h : Fr1 cl H0 H v f) (hr : f.c = root) : Stk cl H0 H root [v] [f]
  | push {v : V} {vs : List V} {f g : Frame} {r : List Frame} (s : Stk cl H0 H root vs (g :: r)) (h : Fr1 cl H0 H v f) (hk : g.c.kids[g.ds.length]? = some f.c) (ne : ∀ e ∈ g :: r, e.pl ≠ f.pl) : Stk cl H0 H root (vs ++ [v]) (f :: g :: r)
theorem Fr1.keep {H0 H H' : Hp} {v : V} {f : Frame} (k : Imm cl.has H H') (kl : ∀ ws, H f.pl = some (.lst ws) → H' f.pl = some (.lst ws)) (h : Fr1 cl H0 H v f) : Fr1 cl H0 H' v f := by
  obtain ⟨⟨tp, t, ws, e, h1, h2, h3, h4⟩, a, b, c, d, g⟩ := h
  exact ⟨⟨tp, t, ws, e, k _ _ h1 trivial, h2.mono k, kl _ h3, h4.mono k⟩, a, b, c, d, g⟩
theorem Stk.keep {H0 H H' : Hp} {root : Cond} (k : Imm cl.has H H') : ∀ {vs : List V} {fr : List Frame}, (∀ f ∈ fr, ∀ ws, H f.pl = some (.lst ws) → H' f.pl = some (.lst ws)) → Stk cl H0 H root vs fr → Stk cl H0 H' root vs fr
  | _, _, kl, .one h hr => .one (h.keep k (kl _ (List.mem_singleton.mpr rfl))) hr
  | _, _, kl, .push s h hk ne => .push (Stk.keep k (fun f hf => kl f (List.mem_cons_of_mem _ hf)) s) (h.keep k (kl _ List.mem_cons_self)) hk ne
theorem Stk.ne {H0 H : Hp} {root : Cond} {vs : List V} {fr : List Frame} (s : Stk cl H0 H root vs fr) : fr ≠ [] ∧ vs ≠ [] := by
  cases s <;> simp
theorem Stk.len {H0 H : Hp} {root : Cond} : ∀ {vs : List V} {fr : List Frame}, Stk cl H0 H root vs fr → vs.length = fr.length
  | _, _, .one _ _ => rfl
  | _, _, .push s _ _ _ => by rw [List.length_append, Stk.len s]; rfl
/-- the deeper, the smaller -/
theorem Stk.deep {H0 H : Hp} {root : Cond} : ∀ {vs : List V} {fr : List Frame} {f : Frame} {r : List Frame}, Stk cl H0 H root vs fr → fr = f :: r → r.length + f.c.depth ≤ root.depth
  | _, _, _, _, .one h hr, e => by
    cases e
    rw [hr]
    simp
  | _, _, _, _, .push (g := g) s h hk ne, e => by
    cases e
    have ih := Stk.deep s rfl
    have h1 := Cond.depth_mem (List.mem_of_getElem? hk)
    have h2 := g.c.depth_kids
    rw [List.length_cons]
    omega
theorem Stk.lists {H0 H : Hp} {root : Cond} : ∀ {vs : List V} {fr : List Frame}, Stk cl H0 H root vs fr → ∀ f ∈ fr, ∃ ws, H f.pl = some (.lst ws)
  | _, _, .one h hr, f, hf => by
    obtain ⟨⟨tp, t, ws, e, h1, h2, h3, h4⟩, _⟩ := h
    rw [List.mem_singleton.mp hf]
    exact ⟨_, h3⟩
  | _, _, .push s h hk ne, f, hf => by
    rcases List.mem_cons.mp hf with rfl | hf
    · obtain ⟨⟨tp, t, ws, e, h1, h2, h3, h4⟩, _⟩ := h
      exact ⟨_, h3⟩
    · exact Stk.lists s f hf
/-- the top one is another one -/
theorem Stk.swap {H0 H H' : Hp} {root : Cond} {vs vs1 : List V} {v1 : V} {g g' : Frame} {r : List Frame} (s : Stk cl H0 H root vs (g :: r)) (k : Imm cl.has H H') (kl : ∀ e : Frame, e.pl ≠ g.pl → ∀ ws, H e.pl = some (.lst ws) → H' e.pl = some (.lst ws)) (ev : vs = vs1 ++ [v1]) (h : Fr1 cl H0 H' v1 g') (ec : g'.c = g.c) (ep : g'.pl = g.pl) : Stk cl H0 H' root vs (g' :: r) := by
  cases s with
  | @one v _ h0 hr =>
    have e1 : vs1 = [] ∧ v = v1 := by
      cases vs1 with
      | nil => exact ⟨rfl, by simpa using ev⟩
      | cons a b => simp at ev
    obtain ⟨rfl, rfl⟩ := e1
    exact .one h (ec.trans hr)
  | @push v vs0 _ g0 r0 s h0 hk ne =>
    have e1 := List.append_inj_left' ev rfl
    have e2 : v = v1 := by
      have := List.append_inj_right' ev rfl
      simpa using this
    subst e1 e2
    exact .push (s.keep k fun e he ws hw => kl e (ne e he) ws hw) h (by rw [ec]; exact hk) (fun e he => by rw [ep]; exact ne e he)
/-- what is left to do -/
def lows : List Frame → Nat
  | [] => 0
  | g :: r => 1 + 2 * Cond.sizes (g.c.kids.drop (g.ds.length + 1)) + lows r
def mu : List Frame → Nat
  | [] => 0
  | f :: r => 1 + 2 * Cond.sizes (f.c.kids.drop f.ds.length) + lows r
theorem mu_push {f g : Frame} {r : List Frame} (hk : g.c.kids[g.ds.length]? = some f.c) (hd : f.ds = []) : mu (f :: g :: r) < mu (g :: r) := by
  have e : g.c.kids.drop g.ds.length = f.c :: g.c.kids.drop (g.ds.length + 1) := by
    obtain ⟨h1, h2⟩ := List.getElem?_eq_some_iff.mp hk
    rw [List.drop_eq_getElem_cons h1, h2]
  have e2 := f.c.size_kids
  show 1 + 2 * Cond.sizes (f.c.kids.drop f.ds.length) + (1 + 2 * Cond.sizes (g.c.kids.drop (g.ds.length + 1)) + lows r) < 1 + 2 * Cond.sizes (g.c.kids.drop g.ds.length) + lows r
  rw [e, Cond.sizes, hd, List.length_nil, List.drop_zero]
  omega
theorem mu_pop {f g g' : Frame} {r : List Frame} (hc : g'.c = g.c) (hl : g'.ds.length = g.ds.length + 1) : mu (g' :: r) < mu (f :: g :: r) := by
  show 1 + 2 * Cond.sizes (g'.c.kids.drop g'.ds.length) + lows r < 1 + 2 * Cond.sizes (f.c.kids.drop f.ds.length) + (1 + 2 * Cond.sizes (g.c.kids.drop (g.ds.length + 1)) + lows r)
  rw [hc, hl]
  omega
theorem IsT.shape {H : Hp} {t : Addr} {c : Cond} (p : IsT H (.ref t) c) : ∃ rest, H t = some (.tup (.str (kindS c) :: rest)) ∧ (c.single = false → IsTs H rest c.kids) := by
  cases p with
  | fixed h => exact ⟨_, h, fun e => nomatch e⟩
  | contact h => exact ⟨_, h, fun e => nomatch e⟩
  | not h p => exact ⟨_, h, fun _ => .cons p .nil⟩
  | grp h p => exact ⟨_, h, fun _ => p⟩
theorem single_in (c : Cond) : inV (.str (kindS c)) [.str "fixed", .str "contact"] = c.single := by
  cases c with
  | fixed b => show inV (.str (Str.ofString "fixed")) [.str "fixed", .str "contact"] = true; decide +kernel
  | contact b => show inV (.str (Str.ofString "contact")) [.str "fixed", .str "contact"] = true; decide +kernel
  | not b => show inV (.str (Str.ofString "not")) [.str "fixed", .str "contact"] = false; decide +kernel
  | grp s cs =>
    cases s
    · show inV (.str (Str.ofString "or")) [.str "fixed", .str "contact"] = false; decide +kernel
    · show inV (.str (Str.ofString "and")) [.str "fixed", .str "contact"] = false; decide +kernel
theorem single_kids {c : Cond} (h : c.single = true) : c.kids = [] := by
  cases c with
  | fixed b => rfl
  | contact b => rfl
  | not b => cases h
  | grp s cs => cases h
def spPartOf (cl : Cl) : Sp := fun vs H Q _ => ∃ (v : V) (c : Cond), vs = [v] ∧ IsT H v c ∧ c.ok = true ∧ c.size ≤ 60 ∧ c.depth ≤ 20 ∧ ∀ (H' : Hp) (x : Addr), Same H H' → IsP cl H' (.ref x) c → Q (.ref x) H'
/-- the invariant of the loop -/
def PInv (cl : Cl) (H0 : Hp) (told : V) (op : Addr) (root : Cond) (m : Nat) (σ : L2.St) (H : Hp) : Prop :=
  ∃ (vs : List V) (fr : List Frame) (x : V) (o1 o2 o3 : Option V), σ = [some told, some (.ref op), some x, o1, o2, o3] ∧ H op = some (.lst vs) ∧ H0 op = none ∧ Same H0 H ∧ m = mu fr ∧
    ((fr = [] ∧ vs = [] ∧ ∃ a, x = .ref a ∧ IsP cl H x root) ∨ (Stk cl H0 H root vs fr ∧ ∀ f ∈ fr, f.pl ≠ op))
theorem ok_part_of (T : TPartOf K mg cl) : FnAt P w K mg base CX0 "part_of" 26 ["told"] (spPartOf cl) := by
  have G_single : FnAt P w K mg base CX0 "single" 5 _ (spSingle cl) := ok_single T
  have G_joined : FnAt P w K mg base CX0 "joined" 25 _ (spJoined cl) := ok_joined T
  refine fnAt_ok T.d_part_of sc_part_of (fun vs H Q E h => ?_) (fun f cdv A outer s H vs Q E hr h => ?_)
  · obtain ⟨v, c, rfl, _⟩ := h; rfl
  · obtain ⟨v, root, rfl, ht, hok, hz, hd, k⟩ := h
    obtain ⟨t0, x0, rfl, ht0⟩ := ht.ref
    refine ⟨_, (pss_cons (ps_set (i := 1) sc_part_of.nd rfl (by first | exact Or.inl rfl | exact Or.inr rfl) (pe_lst (pa_cons (pe_tup (pa_cons (pv 0) (pa_cons (pe_lst pa_nil) pa_nil))) pa_nil)))
        (pss_cons (ps_set (i := 2) sc_part_of.nd rfl (by first | exact Or.inl rfl | exact Or.inr rfl) pe_non)
        (pss_cons (ps_while PassesOwn.never (pt_cmpR (op_neE hr.units0) (pv 1) (pe_lst pa_nil) (nomark _)) (pss_cons (ps_asg (pe_ix ix_list (pv 1) (pe_un un_neg pe_int) (fun _ _ => rfl)) (pg_tup rfl (pgs_cons (pg_name (i := 3) sc_part_of.nd rfl (by first | exact Or.inl rfl | exact Or.inr rfl)) (pgs_cons (pg_name (i := 4) sc_part_of.nd rfl (by first | exact Or.inl rfl | exact Or.inr rfl)) pgs_nil))))
          (pss_cons (ps_set (i := 5) sc_part_of.nd rfl (by first | exact Or.inl rfl | exact Or.inr rfl) (pe_cmpR op_in_seq (pe_ix ix_tup (pv 3) pe_int (fun _ _ => rfl)) (pe_tup (pa_cons pe_str (pa_cons pe_str pa_nil))) rfl))
          (C8.pss_cut (ps_if (PW.pt (pw_and (pt_not (pt_val (pv 5))) (pw_and1 (pt_cmpR op_lt (pe_callB call_len_seq (by rfl) T.z_len PySem.boot_len (pa_cons (pv 4) pa_nil)) (pe_op op_sub (pe_callB call_len_seq (by rfl) T.z_len PySem.boot_len (pa_cons (pv 3) pa_nil)) pe_int) (nomark _))))) (pss_cons (ps_expr (pe_bm PySem.F.plainAttrs_list PySem.F.slot_list_append PySem.F.type_list_append mt_append (pv 1) (pa_cons (pe_tup (pa_cons (pe_ix ix_tup (pv 3) (pe_op op_add pe_int (pe_callB call_len_seq (by rfl) T.z_len PySem.boot_len (pa_cons (pv 4) pa_nil))) (fun _ _ => rfl)) (pa_cons (pe_lst pa_nil) pa_nil))) pa_nil)))
            (pss_one ps_continue)) pss_nil)
          (C8.pss_cut (ps_expr (pe_bm0 PySem.F.plainAttrs_list PySem.F.slot_list_pop PySem.F.type_list_pop mt_pop (pv 1)))
          (C8.pss_cut (ps_set (i := 2) sc_part_of.nd rfl (by first | exact Or.inl rfl | exact Or.inr rfl) (pe_ifExp (pt_val (pv 5)) (pe_callF G_single hr pass0 (pa_cons (pv 3) pa_nil)) (pe_callF G_joined hr pass0 (pa_cons (pe_ix ix_tup (pv 3) pe_int (fun _ _ => rfl)) (pa_cons (pv 4) pa_nil)))))
          (pss_one (ps_if (pt_cmpR (op_neE hr.units0) (pv 1) (pe_lst pa_nil) (nomark _)) (pss_one (ps_expr (pe_bm PySem.F.plainAttrs_list PySem.F.slot_list_append PySem.F.type_list_append mt_append (pe_ix ix_tup (pe_ix ix_list (pv 1) (pe_un un_neg pe_int) (fun _ _ => rfl)) pe_int (fun _ _ => rfl)) (pa_cons (pv 2) pa_nil)))) pss_nil))))))))
        (pss_one (ps_ret (pv 2)))))), ?_⟩
    refine ⟨_, rfl, Nat.zero_le _, fun p1 n1 => ⟨line_ge (by simp), fun tp n2 => ⟨line_ge (by simp), fun op n3 => ?_⟩⟩⟩
    have s1 : Same H (upd H p1 (.lst [])) := Same.new n1
    have s2 : Same (upd H p1 (.lst [])) (upd (upd H p1 (.lst [])) tp (.tup [.ref t0, .ref p1])) := Same.new n2
    have s3 : Same (upd (upd H p1 (.lst [])) tp (.tup [.ref t0, .ref p1])) (upd (upd (upd H p1 (.lst [])) tp (.tup [.ref t0, .ref p1])) op (.lst [.ref tp])) := Same.new n3
    have n3' : H op = none := s1.free (s2.free n3)
    have hpo : p1 ≠ op := ne_of_none (s2 _ _ upd_same) n3
    refine ⟨PInv cl H (.ref t0) op root, ⟨mu [⟨root, [], p1⟩], [.ref tp], [⟨root, [], p1⟩], .non, none, none, none, rfl, upd_same, n3', s1.trans (s2.trans s3), rfl, .inr ⟨.one ⟨⟨tp, t0, [], rfl, s3 _ _ upd_same, ?_, s3 _ _ (s2 _ _ upd_same), .nil⟩, n1, rfl, hz, hd, hok⟩ rfl, ?_⟩⟩, ?_⟩
    · exact ht.mono (T := cl.has) (Same.imm (s1.trans (s2.trans s3)))
    · intro f hf
      rw [List.mem_singleton.mp hf]
      exact hpo
    rintro m σ H1 ⟨vs, fr, x, o1, o2, o3, rfl, hop, nop, sm, rfl, hst⟩
    refine ⟨_, rfl, Nat.zero_le _, fun q nq => ⟨op, q, vs, rfl, rfl, SqL.of (Same.new nq _ _ hop), SqL.of upd_same, _, rfl, ?_⟩⟩
    rcases hst with ⟨rfl, rfl, a, rfl, hp⟩ | ⟨hst, hno⟩
    · refine iteF ?_
      walk_at "rd"
      exact k _ _ (sm.trans (Same.new nq)) (hp.mono (Imm.new nq))
    · have hvs : vs.isEmpty = false := by
        have := hst.ne.2
        cases vs with
        | nil => exact absurd rfl this
        | cons => rfl
      rw [hvs]
      refine iteT ⟨fun σ' H' => ∃ m', m' < mu fr ∧ PInv cl H (.ref t0) op root m' σ' H', fun σ' H' h => h, ?_⟩
      -- the top of the stack
      obtain ⟨ws0, v, f, r, evs, efr, hf⟩ : ∃ ws0 v f r, vs = ws0 ++ [v] ∧ fr = f :: r ∧ Fr1 cl H H1 v f := by
        cases hst with
        | one h hr => exact ⟨[], _, _, _, rfl, rfl, h⟩
        | push s h hk ne => exact ⟨_, _, _, _, rfl, rfl, h⟩
      obtain ⟨⟨tp, t, ws, rfl, h1, h2, h3, h4⟩, fnew, fpre, fsz, fdp, fok⟩ := hf
      have sq : Same H1 (upd H1 q (.lst [])) := Same.new nq
      obtain ⟨rest, hsh, hki⟩ := h2.shape
      refine ⟨_, rfl, 1, rfl, op, vs, -1, .ref tp, rfl, rfl, SqL.of (sq _ _ hop), by rw [evs]; exact atI_last _ _, ?_⟩
      refine ⟨tp, _, rfl, SqT.of (sq _ _ h1), rfl, _, _, rfl, ?_⟩
      walk_at "rd"
      refine ⟨t, _, 0, .str (kindS f.c), rfl, rfl, SqT.of (sq _ _ hsh), atI_int (by decide) rfl, line_ge (by simp), fun q2 nq2 => ⟨q2, _, rfl, .inr (SqT.of upd_same), rfl, rfl, ?_⟩⟩
      have e1 : (V.bl (if false = true then !inV (.str (kindS f.c)) [.str "fixed", .str "contact"] else inV (.str (kindS f.c)) [.str "fixed", .str "contact"])) = .bl f.c.single := by
        rw [if_neg Bool.false_ne_true, single_in]
      rw [e1]
      have sq2 : Same H1 (upd (upd H1 q (.lst [])) q2 (.tup [.str "fixed", .str "contact"])) := sq.trans (Same.new nq2)
      generalize (upd (upd H1 q (.lst [])) q2 (.tup [.str "fixed", .str "contact"])) = H2 at sq2 ⊢
      clear e1
      have hn2 : H2 f.pl = some (.lst ws) := sq2 _ _ h3
      have hp2 := h4.length
      have hds : f.ds.length ≤ f.c.kids.length := by
        have := congrArg List.length fpre
        rw [List.length_take] at this
        omega
      refine ⟨fun σ' H' => σ' = [some (.ref t0), some (.ref op), some x, some (.ref t), some (.ref f.pl), some (.bl f.c.single)] ∧ Same H1 H' ∧ f.ds.length = f.c.kids.length, ?_, ?_⟩
      · walk_at "rd"
        cases hsg : f.c.single with
        | true =>
          refine iteF ⟨sq2, ?_⟩
          have e := single_kids hsg
          rw [e] at hds ⊢
          simp at hds
          rw [hds]
        | false =>
          have hki' := hki hsg
          have hrl := hki'.length
          refine iteT ⟨ws, .inl (SqL.of hn2), _, .inr (SqT.of (sq2 _ _ hsh)), ?_⟩
          by_cases hlt : f.ds.length < f.c.kids.length
          · rw [decide_eq_true (show ((ws.length : Nat) : Int) < (((V.str (kindS f.c) :: rest).length : Nat) : Int) - 1 by rw [List.length_cons]; omega)]
            refine iteT ?_
            -- the next part is opened
            obtain ⟨c', hc'⟩ : ∃ c', f.c.kids[f.ds.length]? = some c' := ⟨_, List.getElem?_eq_getElem hlt⟩
            obtain ⟨v', hv'⟩ : ∃ v', rest[f.ds.length]? = some v' := ⟨_, List.getElem?_eq_getElem (by omega)⟩
            obtain ⟨c2, hc2, ht'⟩ := hki'.at hv'
            rw [hc'] at hc2
            cases hc2
            obtain ⟨t', x', rfl, ht2⟩ := ht'.ref
            refine ⟨_, rfl, .inl ⟨rfl, _, SqL.of (sq2 _ _ hop)⟩, ?_⟩
            walk_at "rd"
            refine ⟨ws, .inl (SqL.of hn2), t, _, _, .ref t', rfl, rfl, SqT.of (sq2 _ _ hsh), atI_int (by omega) ?_, line_ge (by simp), fun pl' npl' => ⟨line_ge (by simp), fun tp' ntp' => ?_⟩⟩
            · have e : ((1 : Int) + (ws.length : Nat)).toNat = f.ds.length + 1 := by omega
              rw [e, List.getElem?_cons_succ]
              exact hv'
            have sA : Same H1 (upd (upd H2 pl' (.lst [])) tp' (.tup [.ref t', .ref pl'])) := (sq2.trans (Same.new npl')).trans (Same.new ntp')
            have nplH : H1 pl' = none := sq2.free npl'
            refine ⟨op, vs, _, rfl, rfl, sA _ _ hop, ?_, ?_⟩
            · have h1 := hst.len
              have h2 := hst.deep efr
              have h3 := f.c.depth_pos
              rw [efr, List.length_cons] at h1
              exact small1000 (by omega)
            have hplo : pl' ≠ op := (ne_of_none hop nplH).symm
            have hplr : ∀ e ∈ fr, e.pl ≠ pl' := by
              intro e he q
              have h := Stk.lists hst e he
              obtain ⟨ws', hw⟩ := h
              rw [q, nplH] at hw
              cases hw
            have kp : Imm cl.has H1 (upd (upd (upd H2 pl' (.lst [])) tp' (.tup [.ref t', .ref pl'])) op (.lst (vs ++ [.ref tp']))) := (Same.imm sA).trans (Imm.mut (sA _ _ hop) id)
            have kl : ∀ g ∈ fr, ∀ ws, H1 g.pl = some (.lst ws) → upd (upd (upd H2 pl' (.lst [])) tp' (.tup [.ref t', .ref pl'])) op (.lst (vs ++ [.ref tp'])) g.pl = some (.lst ws) := by
              intro g hg ws hw
              rw [upd_ne (hno g hg)]
              exact sA _ _ hw
            have hck : c' ∈ f.c.kids := List.mem_of_getElem? hc'
            have z1 := Cond.size_mem hck
            have z2 := Cond.depth_mem hck
            have z3 := f.c.size_kids
            have z4 := f.c.depth_kids
            have hnew : Fr1 cl H (upd (upd (upd H2 pl' (.lst [])) tp' (.tup [.ref t', .ref pl'])) op (.lst (vs ++ [.ref tp']))) (.ref tp') ⟨c', [], pl'⟩ := by
              have ntpo : tp' ≠ op := (ne_of_none ((sq2.trans (Same.new npl')) _ _ hop) ntp').symm
              refine ⟨⟨tp', t', [], rfl, ?_, ?_, ?_, .nil⟩, sm.free nplH, rfl, (show c'.size ≤ 60 by omega), (show c'.depth ≤ 20 by omega), Cond.oks_mem (Cond.ok_kids fok) hck⟩
              · rw [upd_ne ntpo, upd_same]
              · exact ht'.mono kp
              · rw [upd_ne hplo]
                exact Same.new ntp' _ _ upd_same
            rw [efr] at hst kl hplr hno ⊢
            refine ⟨_, mu_push (f := ⟨c', [], pl'⟩) hc' rfl, vs ++ [.ref tp'], _, x, _, _, _, rfl, upd_same, nop, Same.mut (sm.trans sA) nop, rfl, .inr ⟨.push (hst.keep kp kl) hnew hc' hplr, fun g hg => ?_⟩⟩
            rcases List.mem_cons.mp hg with rfl | hg
            · exact hplo
            · exact hno g hg
          · rw [decide_eq_false (show ¬ ((ws.length : Nat) : Int) < (((V.str (kindS f.c) :: rest).length : Nat) : Int) - 1 by rw [List.length_cons]; omega)]
            exact iteF ⟨sq2, by omega⟩
      rintro σ' H3 ⟨rfl, s3', hfull⟩
      have hop3 := s3' _ _ hop
      have hkids : f.ds = f.c.kids := by rw [fpre, hfull, List.take_of_length_le (Nat.le_refl _)]
      refine ⟨fun σ' H' => σ' = [some (.ref t0), some (.ref op), some x, some (.ref t), some (.ref f.pl), some (.bl f.c.single)] ∧ H' = upd H3 op (.lst ws0), ?_, ?_⟩
      · refine ⟨_, rfl, .inl ⟨rfl, _, SqL.of hop3⟩, op, vs, .ref tp, rfl, rfl, hop3, ?_, rfl, ?_⟩
        · rw [evs]
          simp
        · rw [evs, List.dropLast_concat]
      rintro σ' H4 ⟨rfl, e4⟩
      have i4 : Imm cl.has H3 H4 := by
        rw [e4]
        exact Imm.mut hop3 id
      have l4 : ∀ g ∈ fr, ∀ ws, H3 g.pl = some (.lst ws) → H4 g.pl = some (.lst ws) := by
        intro g hg ws hw
        rw [e4, upd_ne (hno g hg)]
        exact hw
      have i14 : Imm cl.has H1 H4 := (Same.imm s3').trans i4
      have o4 : H4 op = some (.lst ws0) := by
        rw [e4, upd_same]
      have sm4 : Same H H4 := by
        rw [e4]
        exact Same.mut (sm.trans s3') nop
      have st4 : Stk cl H H4 root vs fr := (hst.keep (Same.imm s3') (fun g hg ws hw => s3' _ _ hw)).keep i4 l4
      clear e4
      refine ⟨fun σ' H' => ∃ y, σ' = [some (.ref t0), some (.ref op), some (.ref y), some (.ref t), some (.ref f.pl), some (.bl f.c.single)] ∧ Same H4 H' ∧ IsP cl H' (.ref y) f.c, ?_, ?_⟩
      · have h24 := h2.mono i14
        refine ⟨_, rfl, _, rfl, ?_⟩
        cases hsg : f.c.single with
        | true => exact iteT ⟨_, rfl, .ref t, f.c, rfl, h24, hsg, fok, fun H5 y s5 p5 => ⟨y, rfl, s5, p5⟩⟩
        | false =>
          refine iteF ⟨_, rfl, t, _, 0, .str (kindS f.c), rfl, rfl, SqT.of (i14 _ _ hsh trivial), atI_int (by decide) rfl, _, rfl, f.pl, ws, f.c, rfl, ?_, hsg, fok, ?_, fsz, fdp, fun H5 y s5 p5 => ⟨y, rfl, s5, p5⟩⟩
          · exact l4 f (by rw [efr]; exact List.mem_cons_self) _ (s3' _ _ h3)
          · rw [← hkids]
            exact h4.mono i14
      rintro σ' H5 ⟨y, rfl, s5, p5⟩
      refine ⟨_, rfl, Nat.zero_le _, fun q3 nq3 => ⟨op, q3, ws0, rfl, rfl, SqL.of (Same.new nq3 _ _ (s5 _ _ o4)), SqL.of upd_same, _, rfl, ?_⟩⟩
      have s46 : Same H4 (upd H5 q3 (.lst [])) := s5.trans (Same.new nq3)
      have p6 : IsP cl (upd H5 q3 (.lst [])) (.ref y) f.c := p5.mono (Imm.new nq3)
      generalize upd H5 q3 (.lst []) = H6 at s46 p6 ⊢
      cases r with
      | nil =>
        have ews : ws0 = [] := by
          have h := hst.len
          rw [efr, evs] at h
          simpa using h
        subst ews
        refine iteF ⟨0, by rw [efr]; exact Nat.lt_of_lt_of_le Nat.zero_lt_one (Nat.le_add_right 1 _), [], [], .ref y, _, _, _, rfl, s46 _ _ o4, nop, sm4.trans s46, rfl, .inl ⟨rfl, rfl, y, rfl, ?_⟩⟩
        rw [efr] at hst
        cases hst with
        | one h hr => rw [← hr]; exact p6
      | cons g r =>
        rw [efr, evs] at st4
        obtain ⟨sg, hk, ne⟩ : Stk cl H H4 root ws0 (g :: r) ∧ g.c.kids[g.ds.length]? = some f.c ∧ ∀ e ∈ g :: r, e.pl ≠ f.pl := by
          generalize he : ws0 ++ [V.ref tp] = vv at st4
          cases st4 with
          | push s h hk ne =>
            have := List.append_inj_left' he rfl
            subst this
            exact ⟨s, hk, ne⟩
        have sg6 : Stk cl H H6 root ws0 (g :: r) := sg.keep (Same.imm s46) (fun e _ ws hw => s46 _ _ hw)
        obtain ⟨vs1, v1, ev1, hg1⟩ : ∃ vs1 v1, ws0 = vs1 ++ [v1] ∧ Fr1 cl H H6 v1 g := by
          cases sg6 with
          | one h hr => exact ⟨[], _, rfl, h⟩
          | push s h hk ne => exact ⟨_, _, rfl, h⟩
        obtain ⟨⟨tg, tt, wg, rfl, g1, g2, g3, g4⟩, gnew, gpre, gsz, gdp, gok⟩ := hg1
        have hne : ws0.isEmpty = false := by rw [ev1]; simp
        rw [hne]
        have o6 := s46 _ _ o4
        refine iteT ⟨_, rfl, 1, rfl, op, ws0, -1, .ref tg, rfl, rfl, SqL.of o6, by rw [ev1]; exact atI_last _ _, tg, _, 1, .ref g.pl, rfl, rfl, SqT.of g1, rfl, .inl ⟨rfl, _, SqL.of g3⟩, ?_⟩
        have hwl := g4.length
        have hgl : g.ds.length < g.c.kids.length := (List.getElem?_eq_some_iff.mp hk).1
        have hz3 := Cond.len_sizes g.c.kids
        have hz4 := g.c.size_kids
        refine ⟨_, rfl, g.pl, wg, .ref y, rfl, rfl, g3, small1000 (by omega), ?_⟩
        have ngo : g.pl ≠ op := hno g (by rw [efr]; exact List.mem_cons_of_mem _ List.mem_cons_self)
        refine ⟨mu (⟨g.c, g.ds ++ [f.c], g.pl⟩ :: r), ?_, ws0, ⟨g.c, g.ds ++ [f.c], g.pl⟩ :: r, .ref y, _, _, _, rfl, ?_, nop, Same.mut (sm4.trans s46) gnew, rfl, .inr ⟨?_, ?_⟩⟩
        · rw [efr]
          exact mu_pop rfl (by simp)
        · rw [upd_ne ngo.symm]
          exact o6
        · have i7 : Imm cl.has H6 (upd H6 g.pl (.lst (wg ++ [.ref y]))) := Imm.mut g3 id
          have hfr : Fr1 cl H (upd H6 g.pl (.lst (wg ++ [.ref y]))) (.ref tg) ⟨g.c, g.ds ++ [f.c], g.pl⟩ := by
            refine ⟨⟨tg, tt, wg ++ [.ref y], rfl, i7 _ _ g1 trivial, g2.mono i7, upd_same, (g4.mono i7).snoc (p6.mono i7)⟩, gnew, ?_, gsz, gdp, gok⟩
            show g.ds ++ [f.c] = g.c.kids.take (g.ds ++ [f.c]).length
            rw [List.length_append, List.length_singleton, List.take_succ, hk, ← gpre]
            rfl
          exact sg6.swap i7 (fun e he => by
            intro ws hw
            rw [upd_ne he]
            exact hw) ev1 hfr rfl rfl
        · intro e he
          rcases List.mem_cons.mp he with rfl | he
          · exact ngo
          · exact hno e (by rw [efr]; exact List.mem_cons_of_mem _ (List.mem_cons_of_mem _ he))
end

/-! ## the law's names and trees -/
abbrev s__law_names : Stmt := top 29
theorem sc__law_names : FnScope ["_law_cell", "_law_base", "_law_at", "_law_names_here", "_law_k", "_law_sign"] ["_law_cell"] (defScope s__law_names) := ⟨rfl, rfl, rfl, by decide +kernel, rfl, by decide +kernel, by decide +kernel⟩
abbrev s__law_grown : Stmt := top 30
theorem sc__law_grown : FnScope ["_law_pile", "_law_mix", "_law_names_here", "_law_kind", "_law_more", "_law_many"] ["_law_pile", "_law_mix", "_law_names_here"] (defScope s__law_grown) := ⟨rfl, rfl, rfl, by decide +kernel, rfl, by decide +kernel, by decide +kernel⟩
abbrev s__law_size : Stmt := top 31
theorem sc__law_size : FnScope ["_law_told", "_law_one"] ["_law_told"] (defScope s__law_size) := ⟨rfl, rfl, rfl, by decide +kernel, rfl, by decide +kernel, by decide +kernel⟩
abbrev s__law_trees : Stmt := top 32
theorem sc__law_trees : FnScope ["_law_script", "_law_begin", "_law_names_here", "_law_many", "_law_pile", "_law_k", "_law_grown_here"] ["_law_script", "_law_begin", "_law_names_here", "_law_many"] (defScope s__law_trees) := ⟨rfl, rfl, rfl, by decide +kernel, rfl, by decide +kernel, by decide +kernel⟩
structure TTrees (K : PySem.W.Frag) (mg : Str → Option Value) : Prop where
  cells : TCells K mg
  d_names : DefAt K mg "_law_names" s__law_names ["_law_cell"]
  d_grown : DefAt K mg "_law_grown" s__law_grown ["_law_pile", "_law_mix", "_law_names_here"]
  d_size : DefAt K mg "_law_size" s__law_size ["_law_told"]
  d_trees : DefAt K mg "_law_trees" s__law_trees ["_law_script", "_law_begin", "_law_names_here", "_law_many"]
  z_len : mg "len" = none
  z_range : mg "range" = none
  z_sum : mg "sum" = none
  z_tuple : mg "tuple" = none
  z_int : mg "int" = none
/-! ### names -/
def special : List Nat := [98, 106, 107, 113, 122]
theorem kept_special : ∀ z ∈ keptL, ∀ c ∈ z.cps.toList, c ∉ special := by decide +kernel
theorem name_ok (b s : List Nat) (i : Nat) (hb : ∀ x ∈ b, 97 ≤ x ∧ x ≤ 122) (hbl : b.length ≤ 5) (hs : ∀ x ∈ s, 97 ≤ x ∧ x ≤ 122) (hsl : s.length ≤ 3) (hc : ∃ c ∈ s, c ∈ special) : isName (mkS (b.take i ++ s ++ b.drop i)) = true := by
  have low : ∀ x ∈ b.take i ++ s ++ b.drop i, 97 ≤ x ∧ x ≤ 122 := by
    intro x hx
    rcases List.mem_append.mp hx with hx | hx
    · rcases List.mem_append.mp hx with hx | hx
      · exact hb x (List.mem_of_mem_take hx)
      · exact hs x hx
    · exact hb x (List.mem_of_mem_drop hx)
  obtain ⟨c, hc1, hc2⟩ := hc
  have hm : c ∈ b.take i ++ s ++ b.drop i := List.mem_append_left _ (List.mem_append_right _ hc1)
  unfold isName isWord
  rw [tl_mkS, mkS_len]
  have e1 : (b.take i ++ s ++ b.drop i).all isLow = true := List.all_eq_true.mpr fun x hx => by
    unfold isLow
    exact decide_eq_true (low x hx)
  have e2 : (b.take i ++ s ++ b.drop i).isEmpty = false := by
    cases h : b.take i ++ s ++ b.drop i with
    | nil => rw [h] at hm; cases hm
    | cons => rfl
  have e3 : (b.take i ++ s ++ b.drop i).length ≤ 8 := by
    rw [List.length_append, List.length_append, List.length_take, List.length_drop]
    omega
  have e4 : ¬ mkS (b.take i ++ s ++ b.drop i) ∈ keptL := fun h => kept_special _ h c (by rw [tl_mkS]; exact hm) hc2
  rw [e1, e2, decide_eq_true e3, decide_eq_false e4]
  rfl
theorem bjkqz_at {j : Int} (h0 : 0 ≤ j) (h1 : j < 5) : ∃ c, c ∈ special ∧ atI (("bjkqz" : Str)).cps.toList j = some c := by
  have e : ("bjkqz" : Str).cps.toList = special := by decide +kernel
  rw [e]
  obtain ⟨v, hv, ha⟩ := atI_ex (xs := special) h0 (by rw [show special.length = 5 from rfl]; exact h1)
  exact ⟨v, hv, ha⟩
def someL : List Str := ["note", "orb", "onx", "brand", "floor", "knot", "timers"]
theorem some_ok : ∀ z ∈ someL, isName z = true := by decide +kernel
/-- a list of five names at p -/
structure Names5 (H : Hp) (p : Addr) (ns : List Str) : Prop where
  at_ : H p = some (.lst (ns.map V.str))
  five : ns.length = 5
  ok : ∀ n ∈ ns, isName n = true
def spNames : Sp := fun vs H Q _ => ∃ c : Int, vs = [.int c] ∧ ∀ (H' : Hp) (p : Addr) (ns : List Str), Same H H' → H p = none → Names5 H' p ns → Q (.ref p) H'
section
variable {P : Program} {w : World} {K : PySem.W.Frag} {mg : Str → Option Value} {base : Heap}
theorem ok_names (T : TTrees K mg) : FnAt P w K mg base CX0 "_law_names" 3 ["_law_cell"] spNames := by
  have G__law_word : FnAt P w K mg base CX0 "_law_word" 2 _ spWord := ok_word T.cells
  have G__law_mixed : FnAt P w K mg base CX0 "_law_mixed" 1 _ spMixed := ok_mixed T.cells
  refine fnAt_ok T.d_names sc__law_names (fun vs H Q E h => ?_) (fun f cdv A outer s H vs Q E hr h => ?_)
  · obtain ⟨c, rfl, _⟩ := h; rfl
  · obtain ⟨c0, rfl, k⟩ := h
    refine ⟨_, (pss_cons (ps_set (i := 0) sc__law_names.nd rfl (by first | exact Or.inl rfl | exact Or.inr rfl) (pe_callF G__law_mixed hr pass0 (pa_cons (pv 0) (pa_cons pe_int pa_nil))))
        (pss_cons (ps_set (i := 1) sc__law_names.nd rfl (by first | exact Or.inl rfl | exact Or.inr rfl) (pe_callF G__law_word hr pass0 (pa_cons (pv 0) (pa_cons (pe_op op_mod (pv 0) pe_int) pa_nil))))
        (pss_cons (ps_set (i := 2) sc__law_names.nd rfl (by first | exact Or.inl rfl | exact Or.inr rfl) (pe_op op_mod (pe_op op_fdiv (pv 0) pe_int) pe_int))
        (pss_cons (ps_set (i := 3) sc__law_names.nd rfl (by first | exact Or.inl rfl | exact Or.inr rfl) (pe_lst pa_nil))
        (pss_cons (ps_for PassesOwn.never rfl (pi_range1 rfl T.z_range (pa_cons pe_int pa_nil)) (pg_name (i := 4) sc__law_names.nd rfl (by first | exact Or.inl rfl | exact Or.inr rfl)) (pss_cons (ps_set (i := 5) sc__law_names.nd rfl (by first | exact Or.inl rfl | exact Or.inr rfl) (pe_ix ix_str pe_str (pv 4) (fun _ _ => rfl)))
          (C8.pss_cut (ps_if (pt_cmpR op_eq (pe_op op_mod (pe_op op_fdiv (pv 0) pe_int) pe_int) pe_int (nomark _)) (pss_one (ps_set (i := 5) sc__law_names.nd rfl (by first | exact Or.inl rfl | exact Or.inr rfl) (pe_op op_add_str (pe_callF G__law_word hr pass0 (pa_cons (pe_callF G__law_mixed hr pass0 (pa_cons (pv 0) (pa_cons (pe_op op_add pe_int (pv 4)) pa_nil))) (pa_cons pe_int pa_nil))) (pv 5)))) pss_nil)
          (pss_one (ps_expr (pe_bm PySem.F.plainAttrs_list PySem.F.slot_list_append PySem.F.type_list_append mt_append (pv 3) (pa_cons (pe_op op_add_str (pe_op op_add_str (pe_slice sl_str (pv 1) po_none (po_some (pv 2))) (pv 5)) (pe_slice sl_str (pv 1) (po_some (pv 2)) po_none)) pa_nil)))))))
        (pss_cons (ps_if (pt_cmpR op_eq (pe_op op_mod (pe_op op_fdiv (pv 0) pe_int) pe_int) pe_int (nomark _)) (pss_one (ps_set (i := 3) sc__law_names.nd rfl (by first | exact Or.inl rfl | exact Or.inr rfl) (pe_slice sl_list (pe_slice sl_list (pe_lst (pa_cons pe_str (pa_cons pe_str (pa_cons pe_str (pa_cons pe_str (pa_cons pe_str (pa_cons pe_str (pa_cons pe_str pa_nil)))))))) (po_some (pe_op op_mod (pe_op op_fdiv (pv 0) pe_int) pe_int)) po_none) po_none (po_some pe_int)))) pss_nil)
        (pss_one (ps_ret (pv 3))))))))), ?_⟩
    walk_at "rd"
    refine ⟨c0, 3, rfl, ?_⟩
    have hc := mixed_nn c0 3
    generalize mixed c0 3 = c at hc
    have h60 := Int.emod_nonneg c (show (6 : Int) ≠ 0 by decide)
    have h61 := Int.emod_lt_of_pos c (show (0 : Int) < 6 by decide)
    walk_at "rd"
    refine ⟨c, c % 6, rfl, h60, by omega, ?_⟩
    walk_at "rd"
    have hbl : (wordL c (c % 6).toNat).length ≤ 5 := by
      rw [wordL_len]
      omega
    have hbw := wordL_low c (c % 6).toNat
    generalize wordL c (c % 6).toNat = b at hbl hbw
    have h70 := Int.emod_nonneg (c / 6) (show (6 : Int) ≠ 0 by decide)
    generalize c / 6 % 6 = at_ at h70
    obtain ⟨i, rfl⟩ := Int.eq_ofNat_of_zero_le h70
    refine ⟨Nat.zero_le _, fun p np => ?_⟩
    refine ⟨_, rfl, by decide, by decide, for_range (lo := 0) (n := 5) (fun j σ H' => ∃ (v5 v6 : Option V) (ns : List Str), σ = [some (.int c), some (.str (mkS b)), some (.int (i : Nat)), some (.ref p), v5, v6] ∧ Same H H' ∧ H' p = some (.lst (ns.map V.str)) ∧ ns.length = j ∧ ∀ n ∈ ns, isName n = true)
      ⟨none, none, [], rfl, Same.new np, upd_same, rfl, fun n hn => by cases hn⟩ ?_ ?_⟩
    · rintro j σ H1 hj ⟨v5, v6, ns, rfl, s1, hp, hl, hns⟩
      walk_at "rd"
      obtain ⟨x, hx, ha⟩ := bjkqz_at (j := 0 + (j : Int)) (by omega) (by omega)
      refine ⟨line_ge (by decide +kernel), x, ha, ?_⟩
      refine ⟨fun σ' H' => ∃ s : List Nat, σ' = [some (.int c), some (.str (mkS b)), some (.int (i : Nat)), some (.ref p), some (.int (0 + (j : Nat))), some (.str (mkS s))] ∧ H' = H1 ∧ s.length ≤ 3 ∧ (∀ x ∈ s, 97 ≤ x ∧ x ≤ 122) ∧ ∃ x ∈ s, x ∈ special, ?_, ?_⟩
      · have xlow : 97 ≤ x ∧ x ≤ 122 := by
          have q : ∀ x ∈ special, 97 ≤ x ∧ x ≤ 122 := by decide
          exact q x hx
        walk_at "rd"
        refine ite2 (fun _ => ?_) (fun _ => ?_)
        · refine ⟨_, _, rfl, _, _, rfl, by decide, by decide, ?_⟩
          walk_at "rd"
          refine ⟨line_ge ?_, wordL (mixed c (40 + (0 + (j : Int)))) (Int.toNat 2) ++ [x], ?_⟩
          · rw [mkS_one, mkS_len, mkS_len, wordL_len]
            simp
          · rw [mkS_one, mkS_app]
            refine ⟨rfl, ?_, ?_, x, List.mem_append_right _ (List.mem_singleton.mpr rfl), hx⟩
            · rw [List.length_append, wordL_len]
              simp
            · intro y hy
              rcases List.mem_append.mp hy with hy | hy
              · exact wordL_low _ _ y hy
              · rw [List.mem_singleton.mp hy]
                exact xlow
        · refine ⟨[x], by rw [mkS_one], by simp, ?_, x, List.mem_singleton.mpr rfl, hx⟩
          intro y hy
          rw [List.mem_singleton.mp hy]
          exact xlow
      · rintro σ' H2 ⟨s, rfl, rfl, hsl, hsw, hsp⟩
        refine ⟨_, rfl, .inl ⟨rfl, _, SqL.of hp⟩, ?_⟩
        walk_at "rd"
        rw [cutS_to, cutS_from, mkS_len, mkS_len, mkS_len]
        have l1 : (b.take i).length ≤ 5 := by rw [List.length_take]; omega
        have l2 : (b.drop i).length ≤ 5 := by rw [List.length_drop]; omega
        refine ⟨line_ge (by omega), line_ge (by omega), line_ge (by omega), line_ge ?_, p, ns.map V.str, _, rfl, rfl, hp, ?_, ?_⟩
        · rw [mkS_app, mkS_len, mkS_len, List.length_append]
          omega
        · rw [List.length_map]
          exact small1000 (by omega)
        · rw [mkS_app, mkS_app]
          refine ⟨_, _, ⟨rfl, rfl⟩, Same.mut s1 np, ns ++ [mkS (b.take i ++ s ++ b.drop i)], ?_, by simp [hl], ?_⟩
          · rw [upd_same, List.map_append]
            rfl
          · intro n hn
            rcases List.mem_append.mp hn with hn | hn
            · exact hns n hn
            · rw [List.mem_singleton.mp hn]
              exact name_ok b s i hbw hbl hsw hsl hsp
    · rintro σ H1 ⟨v5, v6, ns, rfl, s1, hp, hl, hns⟩
      walk_at "rd"
      refine ite2 (fun _ => ?_) (fun _ => ?_)
      · refine ⟨line_ge (by decide), fun p2 np2 => ?_⟩
        have h30 := Int.emod_nonneg (c / 432) (show (3 : Int) ≠ 0 by decide)
        have h31 := Int.emod_lt_of_pos (c / 432) (show (0 : Int) < 3 by decide)
        generalize c / 432 % 3 = m at h30 h31
        obtain ⟨m, rfl⟩ := Int.eq_ofNat_of_zero_le h30
        refine ⟨p2, someL.map V.str, rfl, SqL.of upd_same, fun p3 np3 => ⟨p3, _, rfl, SqL.of upd_same, fun p4 np4 => ?_⟩⟩
        have e1 : cutV (cutV (someL.map V.str) (some (m : Int)) none) none (some 5) = ((someL.drop m).take 5).map V.str := by
          rw [cutV_from, show (5 : Int) = ((5 : Nat) : Int) from rfl, cutV_to, List.map_take, List.map_drop]
        rw [e1]
        have sA : Same H _ := ((s1.trans (Same.new (o := .lst (someL.map V.str)) np2)).trans (Same.new (o := .lst (cutV (someL.map V.str) (some (m : Int)) none)) np3))
        refine k _ p4 _ (sA.trans (Same.new np4)) (sA.free np4) ⟨upd_same, ?_, fun n hn => some_ok n (List.mem_of_mem_drop (List.mem_of_mem_take hn))⟩
        rw [List.length_take, List.length_drop]
        show min 5 (7 - m) = 5
        omega
      · exact k _ p ns s1 np ⟨hp, hl, hns⟩
/-! ### size of a tuple -/
def spLSize (n : Nat) : Sp := fun vs H Q _ => ∃ (v : V) (c : Cond), vs = [v] ∧ IsT H v c ∧ c.depth ≤ n ∧ c.size ≤ 1000 ∧ ∀ H' : Hp, Same H H' → Q (.int c.size) H'
theorem ok_lsize (T : TTrees K mg) : ∀ n : Nat, FnAt P w K mg base CX0 "_law_size" (n + 1) ["_law_told"] (spLSize n)
  | 0 => by
    refine fnAt_ok T.d_size sc__law_size (fun vs H Q E h => ?_) (fun f cdv A outer s H vs Q E hr h => ?_)
    · obtain ⟨v, c, rfl, _⟩ := h; rfl
    · obtain ⟨v, c, rfl, p, hd, _⟩ := h
      exact absurd c.depth_pos (by omega)
  | n + 1 => by
    have G__law_size := ok_lsize T n
    refine fnAt_ok T.d_size sc__law_size (fun vs H Q E h => ?_) (fun f cdv A outer s H vs Q E hr h => ?_)
    · obtain ⟨v, c, rfl, _⟩ := h; rfl
    · obtain ⟨v, c, rfl, p, hd, hz, k⟩ := h
      obtain ⟨t, _, rfl, _⟩ := p.ref
      obtain ⟨rest, hsh, hki⟩ := p.shape
      refine ⟨_, (pss_cons (ps_if (pt_cmpR op_in_seq (pe_ix ix_tup (pv 0) pe_int (fun _ _ => rfl)) (pe_tup (pa_cons pe_str (pa_cons pe_str pa_nil))) rfl) (pss_one (ps_ret pe_int)) pss_nil)
        (pss_one (ps_ret (pe_op op_add pe_int (pe_callB (cr_sum rfl) (by rfl) T.z_sum (by decide +kernel) (pa_cons (pe_lc (own := [("_law_one", 1)]) (g := gName 1) (tt := tYes) rfl sc__law_size.nd (pi_tup (pe_slice sl_tup (pv 0) (po_some pe_int) po_none)) (blkOk_by (own := [("_law_one", 1)]) (N := ["_law_told", "_law_one"]) (sc := defScope s__law_size) (by decide +kernel)) (fun _ _ _ _ _ => pg_name (i := 1) sc__law_size.nd rfl (Or.inl rfl)) (fun _ _ _ _ _ => pts_nil) (fun _ _ _ _ _ => (pe_callF G__law_size hr pass0 (pa_cons (pv 1) pa_nil) (Nat.le_refl _)))) pa_nil)))))), ?_⟩
      walk_at "rd"
      refine ⟨t, _, 0, .str (kindS c), rfl, rfl, SqT.of hsh, atI_int (by decide) rfl, line_ge (by simp), fun q2 nq2 => ⟨q2, _, rfl, .inr (SqT.of upd_same), rfl, rfl, ?_⟩⟩
      have e1 : (V.bl (if false = true then !inV (.str (kindS c)) [.str "fixed", .str "contact"] else inV (.str (kindS c)) [.str "fixed", .str "contact"])) = .bl c.single := by
        rw [if_neg Bool.false_ne_true, single_in]
      rw [e1]
      walk_at "rd"
      cases hs : c.single with
      | true =>
        refine iteT ?_
        have e : (c.size : Int) = 1 := by
          rw [Cond.size_kids, single_kids hs]
          rfl
        rw [e] at k
        exact k _ (Same.new nq2)
      | false =>
        have sq2 : Same H (upd H q2 (.tup [.str "fixed", .str "contact"])) := Same.new nq2
        have ps := hki hs
        have hl := ps.length
        have hz2 : c.kids.length ≤ 1000 := by
          have h1 := Cond.len_sizes c.kids
          have h2 := c.size_kids
          omega
        refine iteF ⟨_, rfl, 1, rfl, t, _, rfl, SqT.of (sq2 _ _ hsh), ?_, fun t1 nt1 => ?_⟩
        · rintro ⟨h1, _⟩
          rw [show (1 : Int) = ((1 : Nat) : Int) from rfl, HT.sIx_nat, List.length_cons] at h1
          omega
        have e2 : cutV (.str (kindS c) :: rest) (some 1) none = rest := by
          rw [show (1 : Int) = ((1 : Nat) : Int) from rfl, cutV_from]
          rfl
        rw [e2]
        have s1 : Same H (upd (upd H q2 (.tup [.str "fixed", .str "contact"])) t1 (.tup rest)) := sq2.trans (Same.new nt1)
        refine ⟨t1, rfl, ⟨_, SqT.of upd_same⟩, fun D nD => lc_tup (K := K) (a := t1) (xs := rest) (fun i H' => Same (upd (upd H q2 (.tup [.str "fixed", .str "contact"])) t1 (.tup rest)) H' ∧ H' D = some (.lst ((c.kids.map fun c => V.int c.size).take i)))
          ⟨Same.new nD, upd_same⟩ (fun i H' _ q => SqT.of (q.1 _ _ upd_same)) ?_ ?_⟩
        · rintro i y H2 hy ⟨q1, q2⟩
          obtain ⟨c', hc', p'⟩ := (ps.mono (T := fun _ => False) (Same.imm (s1.trans q1))).at hy
          have hm := List.mem_of_getElem? hc'
          have h1 := Cond.depth_mem hm
          have h2 := Cond.size_mem hm
          have h3 := c.depth_kids
          have h4 := c.size_kids
          refine ⟨rfl, _, rfl, y, c', rfl, p', by omega, by omega, fun H3 s3 => ?_⟩
          exact lc_push (q1.trans s3) nD (s3 _ _ q2) (by rw [List.getElem?_map, hc']; rfl) (by rw [List.length_map]; omega)
        · rintro H2 ⟨q1, q2⟩
          rw [hl, List.take_of_length_le (by simp)] at q2
          refine ⟨D, c.kids.map fun c => (c.size : Int), rfl, SqL.of ?_, _, rfl, ?_⟩
          · rw [q2, List.map_map]
            rfl
          · have e : (1 : Int) + (c.kids.map fun c => (c.size : Int)).sum = (c.size : Int) := by
              rw [sum_cast, Cond.size_kids, Cond.sizes_sum]
              omega
            show Q (V.int (1 + _)) _
            rw [e]
            exact k _ (s1.trans q1)
/-! ### grown -/
def Good (d : Nat) (c : Cond) : Prop := c.ok = true ∧ c.size ≤ 30 ∧ c.depth ≤ d
theorem sizes_le {d : Nat} : ∀ {cs : List Cond}, (∀ c ∈ cs, Good d c) → Cond.sizes cs ≤ 30 * cs.length ∧ Cond.depths cs ≤ d ∧ Cond.oks cs = true
  | [], _ => by simp [Cond.sizes, Cond.depths, Cond.oks]
  | c :: cs, h => by
    have h1 := h c List.mem_cons_self
    have h2 := sizes_le fun x hx => h x (List.mem_cons_of_mem _ hx)
    rw [Cond.sizes, Cond.depths, Cond.oks, List.length_cons, h1.1, h2.2.2]
    exact ⟨by have := h1.2.1; omega, by have := h1.2.2; omega, rfl⟩
theorem IsTs.take {H : Hp} : ∀ {vs : List V} {cs : List Cond} (n : Nat), IsTs H vs cs → IsTs H (vs.take n) (cs.take n)
  | _, _, 0, _ => .nil
  | _, _, _ + 1, .nil => .nil
  | _, _, n + 1, .cons p t => .cons p (IsTs.take n t)
theorem IsTs.drop {H : Hp} : ∀ {vs : List V} {cs : List Cond} (n : Nat), IsTs H vs cs → IsTs H (vs.drop n) (cs.drop n)
  | _, _, 0, p => p
  | _, _, _ + 1, .nil => .nil
  | _, _, n + 1, .cons p t => IsTs.drop n t
/-- a new pile: some of the elder ones, and one more -/
def Grown (d : Nat) (cs : List Cond) (H' : Hp) (p : Addr) : Prop := ∃ (vs' : List V) (cs' : List Cond) (c : Cond), H' p = some (.lst vs') ∧ IsTs H' vs' (cs' ++ [c]) ∧ (∀ x ∈ cs', x ∈ cs) ∧ cs'.length ≤ cs.length ∧ c.ok = true ∧ c.size ≤ 121 ∧ c.depth ≤ d + 1
def spGrown : Sp := fun vs H Q _ => ∃ (p q : Addr) (m : Int) (ws : List V) (cs : List Cond) (ns : List Str) (d : Nat), vs = [.ref p, .int m, .ref q] ∧ H p = some (.lst ws) ∧ IsTs H ws cs ∧ (∀ c ∈ cs, Good d c) ∧ cs.length ≤ 100 ∧ Names5 H q ns ∧ 0 ≤ m ∧
  ∀ (H' : Hp) (p' : Addr), Same H H' → H p' = none → Grown d cs H' p' → Q (.ref p') H'
theorem ok_grown (T : TTrees K mg) : FnAt P w K mg base CX0 "_law_grown" 1 ["_law_pile", "_law_mix", "_law_names_here"] spGrown := by
  refine fnAt_ok T.d_grown sc__law_grown (fun vs H Q E h => ?_) (fun f cdv A outer s H vs Q E hr h => ?_)
  · obtain ⟨p, q, m, ws, cs, ns, d, rfl, _⟩ := h; rfl
  · obtain ⟨p, q, m, ws, cs, ns, d, rfl, hp, ps, hg, hl, hn, hm, k⟩ := h
    have hlen := ps.length
    refine ⟨_, (pss_cons (ps_set (i := 3) sc__law_grown.nd rfl (by first | exact Or.inl rfl | exact Or.inr rfl) (pe_op op_mod (pv 1) pe_int))
        (pss_cons (ps_set (i := 4) sc__law_grown.nd rfl (by first | exact Or.inl rfl | exact Or.inr rfl) (pe_op op_fdiv (pv 1) pe_int))
        (pss_cons (ps_set (i := 5) sc__law_grown.nd rfl (by first | exact Or.inl rfl | exact Or.inr rfl) (pe_ix ix_list (pe_lst (pa_cons pe_int (pa_cons pe_int (pa_cons pe_int (pa_cons pe_int pa_nil))))) (pe_op op_mod (pv 4) pe_int) (fun _ _ => rfl)))
        (C8.pss_cut (ps_if (PW.pt (pw_and (pt_cmpR op_eq (pv 3) pe_int (nomark _)) (pw_and1 (pt_cmpR (op_neE hr.units0) (pv 0) (pe_lst pa_nil) (nomark _))))) (pss_one (ps_ret (pe_op op_cat (pe_slice sl_list (pv 0) po_none (po_some (pe_un un_neg pe_int))) (pe_lst (pa_cons (pe_tup (pa_cons pe_str (pa_cons (pe_ix ix_list (pv 0) (pe_un un_neg pe_int) (fun _ _ => rfl)) pa_nil))) pa_nil))))) pss_nil)
        (C8.pss_cut (ps_if (PW.pt (pw_and (pt_cmpR op_gt (pv 3) pe_int (nomark _)) (pw_and1 (pt_cmpR op_ge (pe_callB call_len_seq (by rfl) T.z_len PySem.boot_len (pa_cons (pv 0) pa_nil)) (pv 5) (nomark _))))) (pss_one (ps_ret (pe_op op_cat (pe_slice sl_list (pv 0) po_none (po_some (pe_op op_sub (pe_callB call_len_seq (by rfl) T.z_len PySem.boot_len (pa_cons (pv 0) pa_nil)) (pv 5)))) (pe_lst (pa_cons (pe_op op_catT (pe_tup (pa_cons (pe_ix ix_list (pe_lst (pa_cons pe_str (pa_cons pe_str pa_nil))) (pe_op op_mod (pv 3) pe_int) (fun _ _ => rfl)) pa_nil)) (pe_callTy call_tuple_of (by rfl) T.z_tuple (by decide +kernel) (pa_cons (pe_slice sl_list (pv 0) (po_some (pe_op op_sub (pe_callB call_len_seq (by rfl) T.z_len PySem.boot_len (pa_cons (pv 0) pa_nil)) (pv 5))) po_none) pa_nil))) pa_nil))))) pss_nil)
        (C8.pss_cut (ps_if (pt_cmpR op_eq (pv 3) pe_int (nomark _)) (pss_one (ps_ret (pe_op op_cat (pv 0) (pe_lst (pa_cons (pe_tup (pa_cons pe_str (pa_cons (pe_cmpR op_eq (pe_op op_mod (pv 4) pe_int) pe_int (nomark _)) pa_nil))) pa_nil))))) pss_nil)
        (C8.pss_cut (ps_if (PW.pt (pw_and (pt_cmpR op_eq (pv 3) pe_int (nomark _)) (pw_and1 (pt_cmpR (op_neE hr.units0) (pv 0) (pe_lst pa_nil) (nomark _))))) (pss_one (ps_ret (pe_op op_cat (pv 0) (pe_lst (pa_cons (pe_ix ix_list (pv 0) (pe_op op_mod (pv 4) (pe_callB call_len_seq (by rfl) T.z_len PySem.boot_len (pa_cons (pv 0) pa_nil))) (fun _ _ => rfl)) pa_nil))))) pss_nil)
        (pss_one (ps_ret (pe_op op_cat (pv 0) (pe_lst (pa_cons (pe_tup (pa_cons pe_str (pa_cons (pe_ix ix_list (pv 2) (pe_op op_mod (pv 4) pe_int) (fun _ _ => rfl)) pa_nil))) pa_nil)))))))))))), ?_⟩
    walk_at "rd"
    refine ⟨line_ge (by simp), fun p1 np1 => ?_⟩
    have h40 := Int.emod_nonneg (m / 9) (show (4 : Int) ≠ 0 by decide)
    have h41 := Int.emod_lt_of_pos (m / 9) (show (0 : Int) < 4 by decide)
    have h90 := Int.emod_nonneg m (show (9 : Int) ≠ 0 by decide)
    have hmore : 0 ≤ m / 9 := Int.ediv_nonneg hm (by decide)
    obtain ⟨y, hy, ha⟩ := atI_ex (xs := [V.int 2, .int 2, .int 3, .int 4]) h40 h41
    obtain ⟨many, rfl, hm2, hm4⟩ : ∃ many : Nat, y = .int (many : Int) ∧ 2 ≤ many ∧ many ≤ 4 := by
      simp only [List.mem_cons, List.not_mem_nil, or_false] at hy
      rcases hy with rfl | rfl | rfl | rfl
      · exact ⟨2, rfl, by omega, by omega⟩
      · exact ⟨2, rfl, by omega, by omega⟩
      · exact ⟨3, rfl, by omega, by omega⟩
      · exact ⟨4, rfl, by omega, by omega⟩
    refine ⟨p1, _, _, _, rfl, rfl, SqL.of upd_same, ha, ?_⟩
    have s1 : Same H (upd H p1 (.lst [.int 2, .int 2, .int 3, .int 4])) := Same.new np1
    generalize upd H p1 (.lst [.int 2, .int 2, .int 3, .int 4]) = H1 at s1
    have fin : ∀ (H2 : Hp) (l b : Addr) (us : List V) (ds : List Cond) (v : V) (c : Cond), Same H H2 → H2 l = some (.lst us) → H2 b = some (.lst [v]) → IsTs H2 us ds → IsT H2 v c → (∀ x ∈ ds, x ∈ cs) → ds.length ≤ cs.length → c.ok = true → c.size ≤ 121 → c.depth ≤ d + 1 → rCat (.ref l) (.ref b) H2 Q := by
      intro H2 l b us ds v c s2 hl2 hb2 pd pc h1 h2 h3 h4 h5
      have hul := pd.length
      refine ⟨l, b, us, [v], rfl, rfl, hl2, hb2, line_ge (by simp; omega), fun p' np' => ?_⟩
      exact k _ p' (s2.trans (Same.new np')) (s2.free np') ⟨_, ds, c, upd_same, (pd.mono (T := fun _ => False) (Imm.new np')).snoc (pc.mono (T := fun _ => False) (Imm.new np')), h1, h2, h3, h4, h5⟩
    have ne : ws.isEmpty = cs.isEmpty := by
      cases ps <;> rfl
    refine ⟨fun σ' H' => σ' = [some (.ref p), some (.int m), some (.ref q), some (.int (m % 9)), some (.int (m / 9)), some (.int (many : Int))] ∧ Same H H', ?_, ?_⟩
    · walk_at "rd"
      refine ite2 (fun _ => ⟨Nat.zero_le _, fun z nz => ?_⟩) (fun _ => s1)
      refine ⟨p, z, ws, rfl, rfl, SqL.of (Same.new nz _ _ (s1 _ _ hp)), SqL.of upd_same, _, rfl, ?_⟩
      have s2 : Same H (upd H1 z (.lst [])) := s1.trans (Same.new nz)
      cases hc : cs with
      | nil =>
        subst hc
        rw [ne]
        exact iteF s2
      | cons c0 cr =>
        rw [ne, hc]
        refine iteT ?_
        obtain ⟨ds, c, ecs⟩ : ∃ ds c, cs = ds ++ [c] := by
          have h : cs ≠ [] := by rw [hc]; simp
          exact ⟨cs.dropLast, cs.getLast h, (List.dropLast_concat_getLast h).symm⟩
        obtain ⟨us, v, ews, pu, pv⟩ : ∃ us v, ws = us ++ [v] ∧ IsTs H us ds ∧ IsT H v c := by
          have h1 := ps.take ds.length
          have h2 := ps.drop ds.length
          rw [ecs, List.take_left] at h1
          rw [ecs, List.drop_left] at h2
          have e := List.take_append_drop ds.length ws
          generalize ws.drop ds.length = w2 at h2 e
          cases h2 with
          | cons p t => cases t; exact ⟨ws.take ds.length, _, e.symm, h1, p⟩
        refine ⟨_, rfl, ?_⟩
        refine ⟨_, rfl, p, ws, rfl, SqL.of (s2 _ _ hp), fun p2 np2 => ?_⟩
        have s3 := s2.trans (Same.new (o := .lst (cutV ws none (some (-1)))) np2)
        refine ⟨1, rfl, p, ws, -1, v, rfl, rfl, SqL.of (s3 _ _ hp), by rw [ews]; exact atI_last _ _, line_ge (by simp), fun p3 np3 => ⟨line_ge (by simp), fun p4 np4 => ?_⟩⟩
        have s4 := (s3.trans (Same.new (o := .tup [.str "not", v]) np3)).trans (Same.new (o := .lst [.ref p3]) np4)
        have hgc := hg c (by rw [ecs]; simp)
        refine fin _ p2 p4 us ds (.ref p3) (.not c) s4 ?_ upd_same (pu.mono (T := fun _ => False) (Same.imm s4)) ?_ (fun x hx => by rw [ecs]; exact List.mem_append_left _ hx) (by rw [ecs]; simp) hgc.1 (by have := hgc.2.1; simp only [Cond.size]; omega) (by have := hgc.2.2; simp only [Cond.depth]; omega)
        · have e : upd (upd H1 z (.lst [])) p2 (.lst (cutV ws none (some (-1)))) p2 = some (.lst us) := by
            rw [upd_same, cutV_last, ews, List.dropLast_concat]
          exact ((Same.new np3).trans (Same.new np4)) _ _ e
        · exact .not (Same.new np4 _ _ upd_same) (pv.mono (T := fun _ => False) (Same.imm s4))
    rintro σ' H2 ⟨rfl, s2⟩
    refine ⟨fun σ' H' => σ' = [some (.ref p), some (.int m), some (.ref q), some (.int (m % 9)), some (.int (m / 9)), some (.int (many : Int))] ∧ Same H H', ?_, ?_⟩
    · walk_at "rd"
      refine ite2 (fun _ => ⟨ws, .inl (SqL.of (s2 _ _ hp)), ?_⟩) (fun _ => s2)
      refine ite2 (fun hge => ?_) (fun _ => s2)
      have hge' : many ≤ ws.length := by
        have := of_decide_eq_true hge
        omega
      have e0 : ((ws.length : Int) - (many : Int)) = ((ws.length - many : Nat) : Int) := by omega
      refine ⟨ws, .inl (SqL.of (s2 _ _ hp)), slL_to (ws.length - many) e0 (SqL.of (s2 _ _ hp)) fun p2 np2 => ⟨line_ge (by simp), fun p3 np3 => ?_⟩⟩
      have s3 := (s2.trans (Same.new (o := .lst (ws.take (ws.length - many))) np2)).trans (Same.new (o := .lst [.str "and", .str "or"]) np3)
      have h20 := Int.emod_nonneg (m % 9) (show (2 : Int) ≠ 0 by decide)
      have h21 := Int.emod_lt_of_pos (m % 9) (show (0 : Int) < 2 by decide)
      obtain ⟨y, hy, hya⟩ := atI_ex (xs := [V.str "and", .str "or"]) h20 h21
      obtain ⟨b, rfl⟩ : ∃ b, y = .str (word b) := by
        simp only [List.mem_cons, List.not_mem_nil, or_false] at hy
        rcases hy with rfl | rfl
        · exact ⟨true, rfl⟩
        · exact ⟨false, rfl⟩
      refine ⟨p3, _, _, _, rfl, rfl, SqL.of upd_same, hya, line_ge (by simp), fun p4 np4 => ?_⟩
      have s4 := s3.trans (Same.new (o := .tup [.str (word b)]) np4)
      refine ⟨ws, .inl (SqL.of (s4 _ _ hp)), slL_from (ws.length - many) e0 (SqL.of (s4 _ _ hp)) fun p5 np5 => ⟨p5, rfl, _, .inl ⟨SqL.of upd_same, fun p6 np6 => ?_⟩⟩⟩
      have hdl : (ws.drop (ws.length - many)).length = many := by rw [List.length_drop]; omega
      have s6 := Same.new (o := .tup (ws.drop (ws.length - many))) np6
      have s5 := (s4.trans (Same.new (o := .lst (ws.drop (ws.length - many))) np5)).trans s6
      have h4 := s6 _ _ (Same.new (o := .lst (ws.drop (ws.length - many))) np5 _ _ (upd_same (o := .tup [.str (word b)])))
      refine ⟨p4, p6, [.str (word b)], ws.drop (ws.length - many), rfl, rfl, SqT.of h4, SqT.of upd_same, by simp, line_ge (by simp; omega), fun e => ?_, fun _ p7 np7 => ⟨line_ge (by simp), fun p8 np8 => ?_⟩⟩
      · rw [e] at hdl
        simp at hdl
        omega
      · have s7 := (s5.trans (Same.new (o := .tup ([.str (word b)] ++ ws.drop (ws.length - many))) np7)).trans (Same.new (o := .lst [.ref p7]) np8)
        have pd := ps.drop (ws.length - many)
        have hgd : ∀ c ∈ cs.drop (ws.length - many), Good d c := fun c hc => hg c (List.mem_of_mem_drop hc)
        obtain ⟨z1, z2, z3⟩ := sizes_le hgd
        have hcl : (cs.drop (ws.length - many)).length = many := by rw [← pd.length]; exact hdl
        refine fin _ p2 p8 (ws.take (ws.length - many)) (cs.take (ws.length - many)) (.ref p7) (.grp b (cs.drop (ws.length - many))) s7 ?_ upd_same ((ps.take _).mono (T := fun _ => False) (Same.imm s7)) (.grp (Same.new np8 _ _ upd_same) (pd.mono (T := fun _ => False) (Same.imm s7))) (fun x hx => List.mem_of_mem_take hx) (by rw [List.length_take]; omega) ?_ ?_ ?_
        · have q := ((((((Same.new (o := .lst [.str "and", .str "or"]) np3).trans (Same.new (o := .tup [.str (word b)]) np4)).trans (Same.new (o := .lst (ws.drop (ws.length - many))) np5)).trans s6).trans (Same.new (o := .tup ([.str (word b)] ++ ws.drop (ws.length - many))) np7)).trans (Same.new (o := .lst [.ref p7]) np8))
          exact q _ _ upd_same
        · rw [Cond.ok, z3, hcl, decide_eq_true hm2]
          rfl
        · rw [Cond.size, ]
          omega
        · rw [Cond.depth]
          omega
    rintro σ' H3 ⟨rfl, s3⟩
    refine ⟨fun σ' H' => σ' = [some (.ref p), some (.int m), some (.ref q), some (.int (m % 9)), some (.int (m / 9)), some (.int (many : Int))] ∧ Same H H', ?_, ?_⟩
    · walk_at "rd"
      refine ite2 (fun _ => ⟨line_ge (by simp), fun p2 np2 => ⟨line_ge (by simp), fun p3 np3 => ?_⟩⟩) (fun _ => s3)
      have s4 := (s3.trans (Same.new (o := .tup [.str "fixed", .bl (decide (m / 9 % 2 = 1))]) np2)).trans (Same.new (o := .lst [.ref p2]) np3)
      exact fin _ p p3 ws cs (.ref p2) (.fixed (decide (m / 9 % 2 = 1))) s4 (s4 _ _ hp) upd_same (ps.mono (T := fun _ => False) (Same.imm s4)) (.fixed (Same.new np3 _ _ upd_same)) (fun x hx => hx) (Nat.le_refl _) rfl (by rw [Cond.size]; omega) (by rw [Cond.depth]; omega)
    rintro σ' H4 ⟨rfl, s4⟩
    refine ⟨fun σ' H' => σ' = [some (.ref p), some (.int m), some (.ref q), some (.int (m % 9)), some (.int (m / 9)), some (.int (many : Int))] ∧ Same H H', ?_, ?_⟩
    · walk_at "rd"
      refine ite2 (fun _ => ⟨Nat.zero_le _, fun z nz => ?_⟩) (fun _ => s4)
      have s5 : Same H (upd H4 z (.lst [])) := s4.trans (Same.new nz)
      refine ⟨p, z, ws, rfl, rfl, SqL.of (s5 _ _ hp), SqL.of upd_same, _, rfl, ?_⟩
      cases he : ws.isEmpty with
      | true => exact iteF s5
      | false =>
        have hwp : 0 < ws.length := by
          cases ws with
          | nil => cases he
          | cons => simp
        have g0 := Int.emod_nonneg (m / 9) (show (ws.length : Int) ≠ 0 by omega)
        have g1 := Int.emod_lt_of_pos (m / 9) (show (0 : Int) < (ws.length : Int) by omega)
        obtain ⟨j, hj⟩ := Int.eq_ofNat_of_zero_le g0
        obtain ⟨v, hv⟩ : ∃ v, ws[j]? = some v := ⟨_, List.getElem?_eq_getElem (by omega)⟩
        obtain ⟨c, hc, pc⟩ := ps.at hv
        refine iteT ⟨ws, .inl (SqL.of (s5 _ _ hp)), by omega, p, ws, _, v, rfl, rfl, SqL.of (s5 _ _ hp), by rw [hj]; exact atI_nat hv, line_ge (by simp), fun p3 np3 => ?_⟩
        have s6 := s5.trans (Same.new (o := .lst [v]) np3)
        have hgc := hg c (List.mem_of_getElem? hc)
        exact fin _ p p3 ws cs v c s6 (s6 _ _ hp) upd_same (ps.mono (T := fun _ => False) (Same.imm s6)) (pc.mono (T := fun _ => False) (Same.imm s6)) (fun x hx => hx) (Nat.le_refl _) hgc.1 (by have := hgc.2.1; omega) (by have := hgc.2.2; omega)
    rintro σ' H5 ⟨rfl, s5⟩
    walk_at "rd"
    have h50 := Int.emod_nonneg (m / 9) (show (5 : Int) ≠ 0 by decide)
    have h51 := Int.emod_lt_of_pos (m / 9) (show (0 : Int) < 5 by decide)
    obtain ⟨y, hy, hya⟩ := atI_ex (xs := ns.map V.str) h50 (by rw [List.length_map, hn.five]; exact h51)
    obtain ⟨nm, hnm, rfl⟩ := List.mem_map.mp hy
    refine ⟨q, ns.map V.str, _, _, rfl, rfl, SqL.of (s5 _ _ hn.at_), hya, line_ge (by simp), fun p2 np2 => ⟨line_ge (by simp), fun p3 np3 => ?_⟩⟩
    have s6 := (s5.trans (Same.new (o := .tup [.str "contact", .str nm]) np2)).trans (Same.new (o := .lst [.ref p2]) np3)
    exact fin _ p p3 ws cs (.ref p2) (.contact nm) s6 (s6 _ _ hp) upd_same (ps.mono (T := fun _ => False) (Same.imm s6)) (.contact (Same.new np3 _ _ upd_same)) (fun x hx => hx) (Nat.le_refl _) (hn.ok nm hnm) (by rw [Cond.size]; omega) (by rw [Cond.depth]; omega)
def spTrees (K : PySem.W.Frag) : Sp := fun vs H Q _ => ∃ (a q : Addr) (script : List Int) (b m : Int) (ns : List Str), vs = [.ref a, .int b, .ref q, .int m] ∧ SqL K H a (script.map V.int) ∧ 0 ≤ b ∧ 0 ≤ m ∧ m ≤ 20 ∧ Names5 H q ns ∧
  ∀ (H' : Hp) (p' : Addr) (ws : List V) (cs : List Cond), Same H H' → H p' = none → H' p' = some (.lst ws) → IsTs H' ws cs → (∀ c ∈ cs, Good 20 c) → cs ≠ [] → cs.length ≤ 20 → Q (.ref p') H'
theorem ok_trees (T : TTrees K mg) : FnAt P w K mg base CX0 "_law_trees" 33 ["_law_script", "_law_begin", "_law_names_here", "_law_many"] (spTrees K) := by
  have G__law_cell_at : FnAt P w K mg base CX0 "_law_cell_at" 1 _ (spCellAt K) := ok_cell_at T.cells
  have G__law_mixed : FnAt P w K mg base CX0 "_law_mixed" 1 _ spMixed := ok_mixed T.cells
  have G__law_grown : FnAt P w K mg base CX0 "_law_grown" 1 _ spGrown := ok_grown T
  have G__law_size : FnAt P w K mg base CX0 "_law_size" 32 _ (spLSize 31) := ok_lsize T 31
  refine fnAt_ok T.d_trees sc__law_trees (fun vs H Q E h => ?_) (fun f cdv A outer s H vs Q E hr h => ?_)
  · obtain ⟨a, q, script, b, m, ns, rfl, _⟩ := h; rfl
  · obtain ⟨a, q, script, b, m, ns, rfl, hs, hb, hm0, hm, hn, k⟩ := h
    refine ⟨_, (pss_cons (ps_set (i := 4) sc__law_trees.nd rfl (by first | exact Or.inl rfl | exact Or.inr rfl) (pe_lst pa_nil))
        (pss_cons (ps_for PassesOwn.never rfl (pi_range1 rfl T.z_range (pa_cons (pv 3) pa_nil)) (pg_name (i := 5) sc__law_trees.nd rfl (by first | exact Or.inl rfl | exact Or.inr rfl)) (pss_cons (ps_set (i := 6) sc__law_trees.nd rfl (by first | exact Or.inl rfl | exact Or.inr rfl) (pe_callF G__law_grown hr pass0 (pa_cons (pv 4) (pa_cons (pe_callF G__law_mixed hr pass0 (pa_cons (pe_callF G__law_cell_at hr pass0 (pa_cons (pv 0) (pa_cons (pe_op op_add (pv 1) (pv 5)) pa_nil))) (pa_cons (pv 5) pa_nil))) (pa_cons (pv 2) pa_nil)))))
          (pss_one (ps_if (pt_cmpR op_lt (pe_callF G__law_size hr pass0 (pa_cons (pe_ix ix_list (pv 6) (pe_un un_neg pe_int) (fun _ _ => rfl)) pa_nil)) pe_int (nomark _)) (pss_one (ps_set (i := 4) sc__law_trees.nd rfl (by first | exact Or.inl rfl | exact Or.inr rfl) (pv 6))) pss_nil))))
        (pss_one (ps_ret (pe_op op_cat (pv 4) (pe_op op_rep (pe_lst (pa_cons (pe_tup (pa_cons pe_str (pa_cons (pe_ix ix_list (pv 2) pe_int (fun _ _ => rfl)) pa_nil))) pa_nil)) (pe_callTy call_int1 (by rfl) T.z_int (by decide +kernel) (pa_cons (pe_cmpR (op_eqE hr.units0) (pv 4) (pe_lst pa_nil) (nomark _)) pa_nil)))))))), ?_⟩
    walk_at "rd"
    refine ⟨Nat.zero_le _, fun p0 np0 => ?_⟩
    refine ⟨_, rfl, _, rfl, by omega, by omega, for_range (lo := 0) (n := m.toNat) (fun j σ H' => ∃ (v5 v6 : Option V) (p : Addr) (ws : List V) (cs : List Cond), σ = [some (.ref a), some (.int b), some (.ref q), some (.int m), some (.ref p), v5, v6] ∧ Same H H' ∧ H p = none ∧ H' p = some (.lst ws) ∧ IsTs H' ws cs ∧ (∀ c ∈ cs, Good j c) ∧ cs.length ≤ j)
      ⟨none, none, p0, [], [], rfl, Same.new np0, np0, upd_same, .nil, by simp, Nat.zero_le _⟩ ?_ ?_⟩
    · rintro j σ H1 hj ⟨v5, v6, p, ws, cs, rfl, s1, np, hp, pt, hg, hl⟩
      walk_at "rd"
      refine ⟨a, script, _, rfl, s1.seq hs, by omega, ?_⟩
      refine ⟨_, _, rfl, ?_⟩
      refine ⟨p, q, _, ws, cs, ns, j, rfl, hp, pt, hg, by omega, ⟨s1 _ _ hn.at_, hn.five, hn.ok⟩, mixed_nn _ _, fun H2 p2 s2 np2 hgr => ?_⟩
      obtain ⟨ws2, cs2, c2, hp2, pt2, hsub, hl2, ok2, sz2, dp2⟩ := hgr
      have hlen := pt2.length
      obtain ⟨us, v, ews, pu, pv⟩ : ∃ us v, ws2 = us ++ [v] ∧ IsTs H2 us cs2 ∧ IsT H2 v c2 := by
        have h1 := pt2.take cs2.length
        have h2 := pt2.drop cs2.length
        rw [List.take_left] at h1
        rw [List.drop_left] at h2
        have e := List.take_append_drop cs2.length ws2
        generalize ws2.drop cs2.length = w2 at h2 e
        cases h2 with
        | cons p t => cases t; exact ⟨ws2.take cs2.length, _, e.symm, h1, p⟩
      refine ⟨1, rfl, p2, ws2, -1, v, rfl, rfl, SqL.of hp2, by rw [ews]; exact atI_last _ _, ?_⟩
      refine ⟨v, c2, rfl, pv, by omega, by omega, fun H3 s3 => ⟨_, rfl, ?_⟩⟩
      have s13 := (s1.trans s2).trans s3
      refine ite2 (fun hlt => ?_) (fun _ => ?_)
      · have hlt := of_decide_eq_true hlt
        refine ⟨_, _, p2, ⟨rfl, rfl, rfl⟩, s13, s1.free np2, ws2, s3 _ _ hp2, cs2 ++ [c2], pt2.mono (T := fun _ => False) (Same.imm s3), ?_, by simp; omega⟩
        intro x hx
        rcases List.mem_append.mp hx with hx | hx
        · have := hg x (hsub x hx)
          exact ⟨this.1, this.2.1, by have := this.2.2; omega⟩
        · rw [List.mem_singleton.mp hx]
          exact ⟨ok2, by omega, dp2⟩
      · refine ⟨_, _, p, ⟨rfl, rfl, rfl⟩, s13, np, ws, s3 _ _ (s2 _ _ hp), cs, pt.mono (T := fun _ => False) (Same.imm (s2.trans s3)), fun x hx => ?_, by omega⟩
        have := hg x hx
        exact ⟨this.1, this.2.1, by have := this.2.2; omega⟩
    · rintro σ H1 ⟨v5, v6, p, ws, cs, rfl, s1, np, hp, pt, hg, hl⟩
      walk_at "rd"
      have hn1 := s1 _ _ hn.at_
      obtain ⟨n0, nr, ens⟩ : ∃ n0 nr, ns = n0 :: nr := by
        have := hn.five
        cases ns with
        | nil => simp at this
        | cons x y => exact ⟨x, y, rfl⟩
      refine ⟨q, _, 0, .str n0, rfl, rfl, SqL.of hn1, atI_int (by decide) (by rw [ens]; rfl), line_ge (by decide), fun p1 np1 => ⟨line_ge (by decide), fun p2 np2 => ⟨Nat.zero_le _, fun p3 np3 => ?_⟩⟩⟩
      have t1 := Same.new (o := .tup [.str "contact", .str n0]) np1
      have t2 := Same.new (o := .lst [.ref p1]) np2
      have t3 := Same.new (o := .lst []) np3
      have t13 := (t1.trans t2).trans t3
      refine ⟨p, p3, ws, rfl, rfl, SqL.of (t13 _ _ hp), SqL.of upd_same, .inr ⟨_, rfl, ?_⟩⟩
      have h2 := t3 _ _ (upd_same (H := upd H1 p1 (.tup [.str "contact", .str n0])) (a := p2) (o := .lst [.ref p1]))
      have h1 := t3 _ _ (t2 _ _ (upd_same (H := H1) (a := p1) (o := .tup [.str "contact", .str n0])))
      have hpp := t13 _ _ hp
      have ptt := pt.mono (T := fun _ => False) (Same.imm t13)
      have s13 := s1.trans t13
      have m20 : m.toNat ≤ 20 := by omega
      generalize upd (upd (upd H1 p1 (.tup [.str "contact", .str n0])) p2 (.lst [.ref p1])) p3 (.lst []) = H2 at h2 h1 hpp ptt s13
      have hlen := pt.length
      cases pt with
      | nil =>
        refine ⟨p2, 1, [.ref p1], rfl, rfl, h2, by decide, by decide, line_ge (by simp), fun p4 np4 => ?_⟩
        refine ⟨p, p4, [], [.ref p1], rfl, rfl, Same.new np4 _ _ hpp, upd_same, line_ge (by simp), fun p5 np5 => ?_⟩
        have s5 := (Same.new (o := .lst [V.ref p1]) np4).trans (Same.new (o := .lst [.ref p1]) np5)
        refine k _ p5 [.ref p1] [.contact n0] (s13.trans s5) ((s13.trans (Same.new np4)).free np5) upd_same (.cons (.contact (s5 _ _ h1)) .nil) ?_ (by simp) (by simp)
        intro c hc
        rw [List.mem_singleton.mp hc]
        exact ⟨hn.ok n0 (by rw [ens]; simp), by simp [Cond.size], by simp [Cond.depth]⟩
      | @cons v0 vs0 c0 cs0 px pr =>
        refine ⟨p2, 0, [.ref p1], rfl, rfl, h2, by decide, by decide, line_ge (by simp), fun p4 np4 => ?_⟩
        refine ⟨p, p4, _, [], rfl, rfl, Same.new np4 _ _ hpp, upd_same, line_ge (by simp at hlen hl ⊢; omega), fun p5 np5 => ?_⟩
        have s5 := (Same.new (o := .lst []) np4).trans (Same.new (o := .lst ((v0 :: vs0) ++ [])) np5)
        refine k _ p5 _ (c0 :: cs0) (s13.trans s5) ((s13.trans (Same.new np4)).free np5) upd_same (by have h := ptt.mono (T := fun _ => False) (Same.imm s5); rw [List.append_nil] at h ⊢; exact h) (fun c hc => ?_) (by simp) (by omega)
        have := hg c hc
        exact ⟨this.1, this.2.1, by have := this.2.2; omega⟩
end

/-! ## the class of a condition -/
def Cond.isFx : Cond → Bool
  | .fixed _ => true
  | _ => false
def Cond.isCt : Cond → Bool
  | .contact _ => true
  | _ => false
def Cond.isTn : Cond → Bool
  | .not _ => true
  | _ => false
theorem k_fx (c : Cond) : decide (V.str (kindS c) = V.str "fixed") = c.isFx := by
  cases c with
  | fixed b => exact decide_eq_true rfl
  | contact n => show decide (V.str "contact" = V.str "fixed") = false; decide +kernel
  | not c => show decide (V.str "not" = V.str "fixed") = false; decide +kernel
  | grp s cs => cases s <;> (show decide (V.str (word _) = V.str "fixed") = false) <;> decide +kernel
theorem k_ct (c : Cond) : decide (V.str (kindS c) = V.str "contact") = c.isCt := by
  cases c with
  | fixed b => show decide (V.str "fixed" = V.str "contact") = false; decide +kernel
  | contact n => exact decide_eq_true rfl
  | not c => show decide (V.str "not" = V.str "contact") = false; decide +kernel
  | grp s cs => cases s <;> (show decide (V.str (word _) = V.str "contact") = false) <;> decide +kernel
theorem k_tn (c : Cond) : decide (V.str (kindS c) = V.str "not") = c.isTn := by
  cases c with
  | fixed b => show decide (V.str "fixed" = V.str "not") = false; decide +kernel
  | contact n => show decide (V.str "contact" = V.str "not") = false; decide +kernel
  | not c => exact decide_eq_true rfl
  | grp s cs => cases s <;> (show decide (V.str (word _) = V.str "not") = false) <;> decide +kernel
theorem k_an (s : Bool) : decide (V.str (word s) = V.str "and") = s := by cases s <;> decide +kernel
theorem k_or (s : Bool) : decide (V.str (word s) = V.str "or") = !s := by cases s <;> decide +kernel
theorem multi_in (c : Cond) : inV (.str (kindS c)) [.str "not", .str "and", .str "or"] = !c.single := by
  cases c with
  | fixed b => show inV (.str "fixed") _ = false; decide +kernel
  | contact n => show inV (.str "contact") _ = false; decide +kernel
  | not c => show inV (.str "not") _ = true; decide +kernel
  | grp s cs => cases s <;> (show inV (.str (word _)) _ = true) <;> decide +kernel
section
variable {P : Program} {w : World} {K : PySem.W.Frag} {mg : Str → Option Value} {base : Heap} {cl : Cl} {pt : Addr}
theorem TTold.srbr' (T : TTold K mg cl) : cl.sr ≠ cl.br := T.parts.srbr
def Cond.cls (cl : Cl) : Cond → Addr
  | .fixed _ => cl.fx
  | .contact _ => cl.ct
  | .not _ => cl.tn
  | .grp s _ => cl.gr s
theorem Cond.has_cls (cl : Cl) (c : Cond) : cl.has (c.cls cl) := by
  cases c with
  | fixed b => exact .inl rfl
  | contact n => exact .inr (.inl rfl)
  | not c => exact .inr (.inr (.inl rfl))
  | grp s cs => exact cl.has_gr s
theorem IsP.ins {H : Hp} {x : V} {c : Cond} (p : IsP cl H x c) : ∃ a dx fs, x = .ref a ∧ H a = some (.ins (c.cls cl) dx fs) := by
  cases p with
  | fixed h => exact ⟨_, _, _, rfl, h⟩
  | contact h => exact ⟨_, _, _, rfl, h⟩
  | not h p => exact ⟨_, _, _, rfl, h⟩
  | grp h ht p => exact ⟨_, _, _, rfl, h⟩
end
theorem call_isStr {X : Cx} : CallR X (.builtin "isinstance") (rIsF "str" isStrV) :=
  call_isF (by decide +kernel) (fun _ => (by decide +kernel : kitB "bool" "str" = some false)) (fun _ => (by decide +kernel : kitB "int" "str" = some false)) fun _ => (by decide +kernel : kitB "str" "str" = some true)
theorem ix_listK {X : Cx} (K : PySem.W.Frag) (h : X.K = K) : IxR X (rIxL K) := h ▸ ix_list
theorem ix_tupK {X : Cx} (K : PySem.W.Frag) (h : X.K = K) : IxR X (rIxT K) := h ▸ ix_tup
theorem IsTs.app {H : Hp} : ∀ {vs ws : List V} {cs ds : List Cond}, IsTs H vs cs → IsTs H ws ds → IsTs H (vs ++ ws) (cs ++ ds)
  | _, _, _, _, .nil, q => q
  | _, _, _, _, .cons p t, q => .cons p (t.app q)

/-! ## holds -/
abbrev s_Fixed_holds : Stmt := inClass (top 15) 1
theorem sc_Fixed_holds : FnScope ["self", "image"] ["self", "image"] (defScope s_Fixed_holds) := ⟨rfl, rfl, rfl, by decide +kernel, rfl, by decide +kernel, by decide +kernel⟩
abbrev s_Contact_holds : Stmt := inClass (top 16) 1
theorem sc_Contact_holds : FnScope ["self", "image"] ["self", "image"] (defScope s_Contact_holds) := ⟨rfl, rfl, rfl, by decide +kernel, rfl, by decide +kernel, by decide +kernel⟩
abbrev s_Turned_holds : Stmt := inClass (top 17) 2
theorem sc_Turned_holds : FnScope ["self", "image"] ["self", "image"] (defScope s_Turned_holds) := ⟨rfl, rfl, rfl, by decide +kernel, rfl, by decide +kernel, by decide +kernel⟩
abbrev s_Series_holds : Stmt := inClass (top 19) 0
theorem sc_Series_holds : FnScope ["self", "image", "part"] ["self", "image"] (defScope s_Series_holds) := ⟨rfl, rfl, rfl, by decide +kernel, rfl, by decide +kernel, by decide +kernel⟩
abbrev s_Branch_holds : Stmt := inClass (top 20) 0
theorem sc_Branch_holds : FnScope ["self", "image", "part"] ["self", "image"] (defScope s_Branch_holds) := ⟨rfl, rfl, rfl, by decide +kernel, rfl, by decide +kernel, by decide +kernel⟩
structure THolds (K : PySem.W.Frag) (mg : Str → Option Value) (cl : Cl) : Prop where
  parts : TParts K mg cl
  m_holds_fx : MethAt K cl.fx "holds" "Fixed.holds" s_Fixed_holds ["self", "image"]
  m_holds_ct : MethAt K cl.ct "holds" "Contact.holds" s_Contact_holds ["self", "image"]
  m_holds_tn : MethAt K cl.tn "holds" "Turned.holds" s_Turned_holds ["self", "image"]
  m_holds_sr : MethAt K cl.sr "holds" "Series.holds" s_Series_holds ["self", "image"]
  m_holds_br : MethAt K cl.br "holds" "Branch.holds" s_Branch_holds ["self", "image"]
  z_all : mg "all" = none
  z_any : mg "any" = none
/-- an image as a dict: each key once, its value a truth -/
def GoodD (kvs : List (Key × V)) : Prop := (∀ p ∈ kvs, valV kvs p.1 = some p.2 ∧ ∃ b, p.2 = .bl b) ∧ kvs.length ≤ 100
/-- the truth of a name: of one that is not in it, False -/
def imF (kvs : List (Key × V)) : Im := fun n => match valV kvs (Sum.inr n : Key) with
  | some (.bl b) => b
  | _ => false
theorem GoodD.at {kvs : List (Key × V)} (g : GoodD kvs) (n : Str) : (valV kvs (Sum.inr n : Key) = none ∧ imF kvs n = false) ∨ valV kvs (Sum.inr n : Key) = some (.bl (imF kvs n)) := by
  unfold imF
  cases h : valV kvs (Sum.inr n : Key) with
  | none => exact .inl ⟨rfl, rfl⟩
  | some v =>
    unfold valV at h
    obtain ⟨p, hp, rfl⟩ := Option.map_eq_some_iff.mp h
    obtain ⟨b, e⟩ := (g.1 p (List.mem_of_find?_eq_some hp)).2
    rw [e]
    exact .inr rfl
section
variable {P : Program} {w : World} {K : PySem.W.Frag} {mg : Str → Option Value} {base : Heap} {cl : Cl}
def spHolds (cl : Cl) (n : Nat) (C : Addr) : Sp := fun vs H Q _ => ∃ (a dx d : Addr) (fs : List (Str × V)) (c : Cond) (kvs : List (Key × V)), vs = [.ref a, .ref d] ∧ H a = some (.ins C dx fs) ∧ IsP cl H (.ref a) c ∧ H d = some (.dK kvs) ∧ GoodD kvs ∧ c.depth ≤ n ∧ c.size ≤ 1000 ∧
  ∀ H' : Hp, Same H H' → Q (.bl (c.holds (imF kvs))) H'
theorem ok_holds_fx (T : THolds K mg cl) (n : Nat) : ∃ f fd, Cls K cl.fx ∧ Meth K cl.fx "holds" f ∧ Binds K fd ["self", "image"] [] ∧ FnOk P w K mg base CX0 1 f fd ["self", "image"] (spHolds cl n cl.fx) := by
  refine methAt_ok T.parts.c_Fixed.cl T.m_holds_fx sc_Fixed_holds (fun vs H Q E h => ?_) (fun f cdv A outer s H vs Q E hr h => ?_)
  · obtain ⟨a, dx, d, fs, c, kvs, rfl, _⟩ := h; rfl
  · obtain ⟨a, dx, d, fs, c, kvs, rfl, ha, p, hD, hg, hd, hz, q⟩ := h
    obtain ⟨b, rfl, rfl⟩ := inv_fx T.parts.nd ha p
    refine ⟨_, (pss_one (ps_ret (pe_fld (pv 0) rfl))), ?_⟩
    exact ⟨_, rfl, a, _, dx, _, _, rfl, ha, T.parts.c_Fixed.cl, T.parts.nv_fx, lk1s, q _ (Same.refl _)⟩
theorem ok_holds_ct (T : THolds K mg cl) (n : Nat) : ∃ f fd, Cls K cl.ct ∧ Meth K cl.ct "holds" f ∧ Binds K fd ["self", "image"] [] ∧ FnOk P w K mg base CX0 1 f fd ["self", "image"] (spHolds cl n cl.ct) := by
  refine methAt_ok T.parts.c_Contact.cl T.m_holds_ct sc_Contact_holds (fun vs H Q E h => ?_) (fun f cdv A outer s H vs Q E hr h => ?_)
  · obtain ⟨a, dx, d, fs, c, kvs, rfl, _⟩ := h; rfl
  · obtain ⟨a, dx, d, fs, c, kvs, rfl, ha, p, hD, hg, hd, hz, q⟩ := h
    obtain ⟨m, rfl, rfl⟩ := inv_ct T.parts.nd ha p
    have hu := hu_of hr
    refine ⟨_, (pss_one (ps_ret (pe_dget2 hu (pv 1) (pe_fld (pv 0) rfl) pe_bl (by constructor <;> rfl)))), ?_⟩
    refine ⟨_, rfl, d, rfl, .inl ⟨kvs, .inl hD⟩, _, rfl, a, _, dx, _, _, rfl, ha, T.parts.c_Contact.cl, T.parts.nn_ct, lk1s, valV kvs (Sum.inr m : Key), .inl ⟨kvs, Sum.inr m, .inl hD, rfl, rfl⟩, ?_⟩
    have e : (valV kvs (Sum.inr m : Key)).getD (V.bl false) = .bl (imF kvs m) := by
      rcases hg.at m with ⟨h1, h2⟩ | h1
      · rw [h1, h2]
        rfl
      · rw [h1]
        rfl
    rw [e]
    exact q _ (Same.refl _)
theorem ok_holds_tn (T : THolds K mg cl) {n k : Nat} (G_holds : DispAt P w K mg base CX0 cl.has "holds" k ["self", "image"] (spHolds cl n)) :
    ∃ f fd, Cls K cl.tn ∧ Meth K cl.tn "holds" f ∧ Binds K fd ["self", "image"] [] ∧ FnOk P w K mg base CX0 (k + 1) f fd ["self", "image"] (spHolds cl (n + 1) cl.tn) := by
  refine methAt_ok T.parts.c_Turned.cl T.m_holds_tn sc_Turned_holds (fun vs H Q E h => ?_) (fun f cdv A outer s H vs Q E hr h => ?_)
  · obtain ⟨a, dx, d, fs, c, kvs, rfl, _⟩ := h; rfl
  · obtain ⟨a, dx, d, fs, c, kvs, rfl, ha, p, hD, hg, hd, hz, q⟩ := h
    obtain ⟨v, c', rfl, rfl, p'⟩ := inv_tn T.parts.nd ha p
    rw [Cond.depth] at hd
    rw [Cond.size] at hz
    refine ⟨_, (pss_one (ps_ret (pe_not (pe_methD G_holds hr pass0 (pe_fld (pv 0) rfl) (pa_cons (pv 1) pa_nil) (Nat.le_refl _))))), ?_⟩
    obtain ⟨a', C', dx', fs', rfl, ha', hC', hl'⟩ := meth_of (m := "holds") (by decide +kernel) p'
    refine ⟨_, rfl, a, _, dx, _, _, rfl, ha, T.parts.c_Turned.cl, T.parts.np_tn, lk1s, a', C', dx', fs', rfl, ha', hC', hl', _, rfl, a', dx', d, fs', c', kvs, rfl, ha', p', hD, hg, by omega, by omega, fun H1 s1 => ?_⟩
    exact ⟨_, rfl, q _ s1⟩
theorem all_take (f : Im) (cs : List Cond) : (cs.map (Cond.holds f)).all id = Cond.alls f cs := (Cond.alls_map f cs).symm
theorem ok_holds_sr (T : THolds K mg cl) {n k : Nat} (G_holds : DispAt P w K mg base CX0 cl.has "holds" k ["self", "image"] (spHolds cl n)) :
    ∃ f fd, Cls K cl.sr ∧ Meth K cl.sr "holds" f ∧ Binds K fd ["self", "image"] [] ∧ FnOk P w K mg base CX0 (k + 1) f fd ["self", "image"] (spHolds cl (n + 1) cl.sr) := by
  refine methAt_ok T.parts.c_Series.cl T.m_holds_sr sc_Series_holds (fun vs H Q E h => ?_) (fun f cdv A outer st H vs Q E hr h => ?_)
  · obtain ⟨a, dx, d, fs, c, kvs, rfl, _⟩ := h; rfl
  · obtain ⟨a, dx, d, fs, c, kvs, rfl, ha, p, hD, hg, hd, hz, q⟩ := h
    obtain ⟨t, ws, cs, rfl, rfl, ht, ps⟩ := inv_gr (s := true) T.parts.nd rfl ha p
    rw [Cond.depth] at hd
    rw [Cond.size] at hz
    have hlen := ps.length
    have hz2 := Cond.len_sizes cs
    refine ⟨_, (pss_one (ps_ret (pe_callB (cr_all rfl) (by rfl) T.z_all (by decide +kernel) (pa_cons (pe_lc (own := [("part", 2)]) (g := gName 2) (tt := tYes) rfl sc_Series_holds.nd (pi_tup (pe_fld (pv 0) rfl)) (blkOk_by (own := [("part", 2)]) (N := ["self", "image", "part"]) (sc := defScope s_Series_holds) (by decide +kernel)) (fun _ _ _ _ _ => pg_name (i := 2) sc_Series_holds.nd rfl (Or.inl rfl)) (fun _ _ _ _ _ => pts_nil) (fun _ _ _ _ _ => (pe_methD G_holds hr pass0 (pv 2) (pa_cons (pv 1) pa_nil) (Nat.le_refl _)))) pa_nil)))), ?_⟩
    refine ⟨_, rfl, a, _, dx, _, _, rfl, ha, T.parts.c_Series.cl, T.parts.np_sr, lk1s, t, rfl, ⟨_, SqT.of ht⟩, fun D nD => lc_tup (K := K) (a := t) (xs := ws) (fun i H' => Same H H' ∧ H' D = some (.lst ((cs.map fun c => V.bl (c.holds (imF kvs))).take i)))
      ⟨Same.new nD, upd_same⟩ (fun i H' _ q => SqT.of (q.1 _ _ ht)) ?_ ?_⟩
    · rintro i y H2 hy ⟨q1, q2⟩
      obtain ⟨c', hc', p'⟩ := (ps.mono (Same.imm q1)).at hy
      obtain ⟨a', C', dx', fs', rfl, ha', hC', hl'⟩ := meth_of (m := "holds") (by decide +kernel) p'
      have hm := List.mem_of_getElem? hc'
      have h1 := Cond.depth_mem hm
      have h2 := Cond.size_mem hm
      refine ⟨rfl, _, rfl, a', C', dx', fs', rfl, ha', hC', hl', _, rfl, a', dx', d, fs', c', kvs, rfl, ha', p', q1 _ _ hD, hg, by omega, by omega, fun H3 s3 => ?_⟩
      exact lc_push (q1.trans s3) nD (s3 _ _ q2) (by rw [List.getElem?_map, hc']; rfl) (by rw [List.length_map]; omega)
    · rintro H2 ⟨q1, q2⟩
      rw [hlen, List.take_of_length_le (by simp)] at q2
      refine ⟨D, cs.map (Cond.holds (imF kvs)), rfl, SqL.of ?_, ?_⟩
      · rw [q2, List.map_map]
        rfl
      · have e : (Cond.grp true cs).holds (imF kvs) = (cs.map (Cond.holds (imF kvs))).all id := by rw [Cond.holds, Cond.alls_map]
        rw [← e]
        exact q _ q1
theorem ok_holds_br (T : THolds K mg cl) {n k : Nat} (G_holds : DispAt P w K mg base CX0 cl.has "holds" k ["self", "image"] (spHolds cl n)) :
    ∃ f fd, Cls K cl.br ∧ Meth K cl.br "holds" f ∧ Binds K fd ["self", "image"] [] ∧ FnOk P w K mg base CX0 (k + 1) f fd ["self", "image"] (spHolds cl (n + 1) cl.br) := by
  refine methAt_ok T.parts.c_Branch.cl T.m_holds_br sc_Branch_holds (fun vs H Q E h => ?_) (fun f cdv A outer st H vs Q E hr h => ?_)
  · obtain ⟨a, dx, d, fs, c, kvs, rfl, _⟩ := h; rfl
  · obtain ⟨a, dx, d, fs, c, kvs, rfl, ha, p, hD, hg, hd, hz, q⟩ := h
    obtain ⟨t, ws, cs, rfl, rfl, ht, ps⟩ := inv_gr (s := false) T.parts.nd rfl ha p
    rw [Cond.depth] at hd
    rw [Cond.size] at hz
    have hlen := ps.length
    have hz2 := Cond.len_sizes cs
    refine ⟨_, (pss_one (ps_ret (pe_callB (cr_any rfl) (by rfl) T.z_any (by decide +kernel) (pa_cons (pe_lc (own := [("part", 2)]) (g := gName 2) (tt := tYes) rfl sc_Branch_holds.nd (pi_tup (pe_fld (pv 0) rfl)) (blkOk_by (own := [("part", 2)]) (N := ["self", "image", "part"]) (sc := defScope s_Branch_holds) (by decide +kernel)) (fun _ _ _ _ _ => pg_name (i := 2) sc_Branch_holds.nd rfl (Or.inl rfl)) (fun _ _ _ _ _ => pts_nil) (fun _ _ _ _ _ => (pe_methD G_holds hr pass0 (pv 2) (pa_cons (pv 1) pa_nil) (Nat.le_refl _)))) pa_nil)))), ?_⟩
    refine ⟨_, rfl, a, _, dx, _, _, rfl, ha, T.parts.c_Branch.cl, T.parts.np_br, lk1s, t, rfl, ⟨_, SqT.of ht⟩, fun D nD => lc_tup (K := K) (a := t) (xs := ws) (fun i H' => Same H H' ∧ H' D = some (.lst ((cs.map fun c => V.bl (c.holds (imF kvs))).take i)))
      ⟨Same.new nD, upd_same⟩ (fun i H' _ q => SqT.of (q.1 _ _ ht)) ?_ ?_⟩
    · rintro i y H2 hy ⟨q1, q2⟩
      obtain ⟨c', hc', p'⟩ := (ps.mono (Same.imm q1)).at hy
      obtain ⟨a', C', dx', fs', rfl, ha', hC', hl'⟩ := meth_of (m := "holds") (by decide +kernel) p'
      have hm := List.mem_of_getElem? hc'
      have h1 := Cond.depth_mem hm
      have h2 := Cond.size_mem hm
      refine ⟨rfl, _, rfl, a', C', dx', fs', rfl, ha', hC', hl', _, rfl, a', dx', d, fs', c', kvs, rfl, ha', p', q1 _ _ hD, hg, by omega, by omega, fun H3 s3 => ?_⟩
      exact lc_push (q1.trans s3) nD (s3 _ _ q2) (by rw [List.getElem?_map, hc']; rfl) (by rw [List.length_map]; omega)
    · rintro H2 ⟨q1, q2⟩
      rw [hlen, List.take_of_length_le (by simp)] at q2
      refine ⟨D, cs.map (Cond.holds (imF kvs)), rfl, SqL.of ?_, ?_⟩
      · rw [q2, List.map_map]
        rfl
      · have e : (Cond.grp false cs).holds (imF kvs) = (cs.map (Cond.holds (imF kvs))).any id := by rw [Cond.holds, Cond.anys_map]
        rw [← e]
        exact q _ q1
theorem disp_holds (T : THolds K mg cl) : ∀ n : Nat, DispAt P w K mg base CX0 cl.has "holds" (n + 1) ["self", "image"] (spHolds cl n)
  | 0 => by
    refine ⟨fun C hC => ?_⟩
    have vac : ∀ C vs H Q E, spHolds cl 0 C vs H Q E → False := by
      rintro C vs H Q E ⟨a, dx, d, fs, c, kvs, rfl, ha, p, _, _, hd, _⟩
      exact absurd c.depth_pos (by omega)
    rcases hC with rfl | rfl | rfl | rfl | rfl
    · exact ok_holds_fx T 0
    · exact ok_holds_ct T 0
    all_goals
      refine methAt_ok (T.parts.cls (by simp [Cl.has])) (by first | exact T.m_holds_tn | exact T.m_holds_sr | exact T.m_holds_br) (by first | exact sc_Turned_holds | exact sc_Series_holds | exact sc_Branch_holds) (fun vs H Q E h => (vac _ _ _ _ _ h).elim) (fun f cdv A outer s H vs Q E hr h => (vac _ _ _ _ _ h).elim)
  | n + 1 => by
    have ih := disp_holds T n
    refine ⟨fun C hC => ?_⟩
    rcases hC with rfl | rfl | rfl | rfl | rfl
    · obtain ⟨f, fd, h1, h2, h3, h4⟩ := ok_holds_fx (P := P) (w := w) (base := base) T (n + 1)
      exact ⟨f, fd, h1, h2, h3, h4.mono (by omega)⟩
    · obtain ⟨f, fd, h1, h2, h3, h4⟩ := ok_holds_ct (P := P) (w := w) (base := base) T (n + 1)
      exact ⟨f, fd, h1, h2, h3, h4.mono (by omega)⟩
    · exact ok_holds_tn T ih
    · exact ok_holds_sr T ih
    · exact ok_holds_br T ih
end

/-! ## texts -/
abbrev s_bracketed : Stmt := top 21
theorem sc_bracketed : FnScope ["part", "wrapped"] ["part", "wrapped"] (defScope s_bracketed) := ⟨rfl, rfl, rfl, by decide +kernel, rfl, by decide +kernel, by decide +kernel⟩
abbrev s_Fixed_text : Stmt := inClass (top 15) 3
theorem sc_Fixed_text : FnScope ["self"] ["self"] (defScope s_Fixed_text) := ⟨rfl, rfl, rfl, by decide +kernel, rfl, by decide +kernel, by decide +kernel⟩
abbrev s_Contact_text : Stmt := inClass (top 16) 3
theorem sc_Contact_text : FnScope ["self"] ["self"] (defScope s_Contact_text) := ⟨rfl, rfl, rfl, by decide +kernel, rfl, by decide +kernel, by decide +kernel⟩
abbrev s_Turned_text : Stmt := inClass (top 17) 4
theorem sc_Turned_text : FnScope ["self"] ["self"] (defScope s_Turned_text) := ⟨rfl, rfl, rfl, by decide +kernel, rfl, by decide +kernel, by decide +kernel⟩
abbrev s_Group_text : Stmt := inClass (top 18) 5
theorem sc_Group_text : FnScope ["self", "between", "texts", "part"] ["self"] (defScope s_Group_text) := ⟨rfl, rfl, rfl, by decide +kernel, rfl, by decide +kernel, by decide +kernel⟩
abbrev s_Group_wraps : Stmt := inClass (top 18) 3
theorem sc_Group_wraps : FnScope ["self", "part"] ["self", "part"] (defScope s_Group_wraps) := ⟨rfl, rfl, rfl, by decide +kernel, rfl, by decide +kernel, by decide +kernel⟩
abbrev s_Branch_wraps : Stmt := inClass (top 20) 2
theorem sc_Branch_wraps : FnScope ["self", "part"] ["self", "part"] (defScope s_Branch_wraps) := ⟨rfl, rfl, rfl, by decide +kernel, rfl, by decide +kernel, by decide +kernel⟩
structure TText (K : PySem.W.Frag) (mg : Str → Option Value) (cl : Cl) (gp : Addr) : Prop where
  told : TTold K mg cl
  d_bracketed : DefAt K mg "bracketed" s_bracketed ["part", "wrapped"]
  m_text_fx : MethAt K cl.fx "text" "Fixed.text" s_Fixed_text ["self"]
  m_text_ct : MethAt K cl.ct "text" "Contact.text" s_Contact_text ["self"]
  m_text_tn : MethAt K cl.tn "text" "Turned.text" s_Turned_text ["self"]
  m_text_sr : MethAt K cl.sr "text" "Group.text" s_Group_text ["self"]
  m_text_br : MethAt K cl.br "text" "Group.text" s_Group_text ["self"]
  m_wraps_sr : MethAt K cl.sr "wraps" "Group.wraps" s_Group_wraps ["self", "part"]
  m_wraps_br : MethAt K cl.br "wraps" "Branch.wraps" s_Branch_wraps ["self", "part"]
  z_isinstance : mg "isinstance" = none
  c_Group : ClsAt K mg "Group" gp
  o_fx_gp : PySem.W.kitOne K (.ref cl.fx) (.ref gp) = some false
  o_ct_gp : PySem.W.kitOne K (.ref cl.ct) (.ref gp) = some false
  o_tn_gp : PySem.W.kitOne K (.ref cl.tn) (.ref gp) = some false
  o_sr_gp : PySem.W.kitOne K (.ref cl.sr) (.ref gp) = some true
  o_br_gp : PySem.W.kitOne K (.ref cl.br) (.ref gp) = some true
  o_fx_br : PySem.W.kitOne K (.ref cl.fx) (.ref cl.br) = some false
  o_ct_br : PySem.W.kitOne K (.ref cl.ct) (.ref cl.br) = some false
  o_tn_br : PySem.W.kitOne K (.ref cl.tn) (.ref cl.br) = some false
  o_sr_br : PySem.W.kitOne K (.ref cl.sr) (.ref cl.br) = some false
  o_br_br : PySem.W.kitOne K (.ref cl.br) (.ref cl.br) = some true
def Cond.isGrp : Cond → Bool
  | .grp _ _ => true
  | _ => false
def Cond.isOr : Cond → Bool
  | .grp false _ => true
  | _ => false
def wrapT (b : Bool) (z : Str) : Str := if b then "(" ++ z ++ ")" else z
def wraps (s : Bool) (c : Cond) : Bool := if s then c.isGrp else c.isOr
mutual
def Cond.text : Cond → Str
  | .fixed b => if b then "on" else "off"
  | .contact n => n
  | .not c => "not " ++ wrapT c.isGrp c.text
  | .grp s cs => Txt.join (" " ++ word s ++ " ") (Cond.texts s cs)
def Cond.texts (s : Bool) : List Cond → List Str
  | [] => []
  | c :: cs => wrapT (wraps s c) c.text :: Cond.texts s cs
end
theorem Cond.texts_map (s : Bool) : ∀ cs : List Cond, Cond.texts s cs = cs.map fun c => wrapT (wraps s c) c.text
  | [] => rfl
  | c :: cs => by rw [Cond.texts, Cond.texts_map s cs]; rfl
theorem l_on : ("on" : Str).length = 2 := by decide +kernel
theorem l_off : ("off" : Str).length = 3 := by decide +kernel
theorem l_not : ("not " : Str).length = 4 := by decide +kernel
theorem l_op : ("(" : Str).length = 1 := by decide +kernel
theorem l_cl : (")" : Str).length = 1 := by decide +kernel
theorem l_sp : (" " : Str).length = 1 := by decide +kernel
theorem l_word (s : Bool) : (word s).length ≤ 3 := by cases s <;> decide +kernel
theorem wrapT_len (b : Bool) (z : Str) : (wrapT b z).length ≤ z.length + 2 := by
  unfold wrapT
  split
  · rw [len_app, len_app, l_op, l_cl]
    omega
  · omega
theorem join_len0 (sep : Str) : ∀ ys : List Str, (Str.join sep ys).length ≤ (ys.map (·.length)).sum + ys.length * sep.length
  | [] => by
    rw [Str.join, show Str.empty.length = 0 from rfl]
    omega
  | [x] => by
    rw [Str.join]
    simp
  | x :: y :: r => by
    have ih := join_len0 sep (y :: r)
    rw [Str.join, len_app, len_app, List.map_cons, List.sum_cons, List.length_cons, Nat.succ_mul]
    · omega
    · simp
theorem join_len (sep : Str) (ys : List Str) : (Txt.join sep ys).length ≤ (ys.map (·.length)).sum + ys.length * sep.length := by
  rw [show Txt.join sep ys = Str.join sep ys from eq_of_beq (PyProof.Rows.join_plain_closes sep ys)]
  exact join_len0 sep ys
mutual
theorem text_len : ∀ {c : Cond}, c.ok = true → c.text.length + 8 ≤ 24 * c.size
  | .fixed b, _ => by
    cases b
    · show ("off" : Str).length + 8 ≤ _
      rw [l_off, Cond.size]
      omega
    · show ("on" : Str).length + 8 ≤ _
      rw [l_on, Cond.size]
      omega
  | .contact n, h => by
    have := isName_len h
    show n.length + 8 ≤ 24 * 1
    omega
  | .not c, h => by
    have ih := text_len (c := c) h
    have h2 := wrapT_len c.isGrp c.text
    show ("not " ++ wrapT c.isGrp c.text).length + 8 ≤ 24 * (c.size + 1)
    rw [len_app, l_not]
    omega
  | .grp s cs, h => by
    rw [Cond.ok, Bool.and_eq_true] at h
    have ih := texts_len (cs := cs) s h.2
    have h2 := join_len (" " ++ word s ++ " ") (Cond.texts s cs)
    have h3 : (" " ++ word s ++ " ").length ≤ 5 := by
      have := l_word s
      rw [len_app, len_app, l_sp]
      omega
    have h4 : (Cond.texts s cs).length = cs.length := by rw [Cond.texts_map, List.length_map]
    have h5 : (Cond.texts s cs).length * (" " ++ word s ++ " ").length ≤ cs.length * 5 := by rw [h4]; exact Nat.mul_le_mul_left _ h3
    show (Txt.join (" " ++ word s ++ " ") (Cond.texts s cs)).length + 8 ≤ 24 * (Cond.sizes cs + 1)
    omega
theorem texts_len : ∀ {cs : List Cond} (s : Bool), Cond.oks cs = true → ((Cond.texts s cs).map (·.length)).sum + 6 * cs.length ≤ 24 * Cond.sizes cs
  | [], _, _ => by simp [Cond.texts, Cond.sizes]
  | c :: cs, s, h => by
    rw [Cond.oks, Bool.and_eq_true] at h
    have h1 := text_len h.1
    have h2 := texts_len (cs := cs) s h.2
    have h3 := wrapT_len (wraps s c) c.text
    rw [Cond.texts, List.map_cons, List.sum_cons, Cond.sizes, List.length_cons]
    omega
end
section
variable {P : Program} {w : World} {K : PySem.W.Frag} {mg : Str → Option Value} {base : Heap} {cl : Cl} {gp : Addr}
theorem TText.c_Branch (T : TText K mg cl gp) : ClsAt K mg "Branch" cl.br := T.told.parts.c_Branch
def tablG (cl : Cl) (f : Cond → Bool) : Addr → Bool → Prop := fun C b => ∃ c : Cond, C = Cond.cls cl c ∧ b = f c
theorem TText.is_Group (T : TText K mg cl gp) : Ru.IsT K gp (tablG cl Cond.isGrp) := by
  rintro C b ⟨c, rfl, rfl⟩
  cases c with
  | fixed b => exact ⟨⟨_, _, T.told.parts.c_Fixed⟩, T.o_fx_gp⟩
  | contact b => exact ⟨⟨_, _, T.told.parts.c_Contact⟩, T.o_ct_gp⟩
  | not b => exact ⟨⟨_, _, T.told.parts.c_Turned⟩, T.o_tn_gp⟩
  | grp s b =>
    cases s
    · exact ⟨⟨_, _, T.told.parts.c_Branch⟩, T.o_br_gp⟩
    · exact ⟨⟨_, _, T.told.parts.c_Series⟩, T.o_sr_gp⟩
theorem TText.is_Branch (T : TText K mg cl gp) : Ru.IsT K cl.br (tablG cl Cond.isOr) := by
  rintro C b ⟨c, rfl, rfl⟩
  cases c with
  | fixed b => exact ⟨⟨_, _, T.told.parts.c_Fixed⟩, T.o_fx_br⟩
  | contact b => exact ⟨⟨_, _, T.told.parts.c_Contact⟩, T.o_ct_br⟩
  | not b => exact ⟨⟨_, _, T.told.parts.c_Turned⟩, T.o_tn_br⟩
  | grp s b =>
    cases s
    · exact ⟨⟨_, _, T.told.parts.c_Branch⟩, T.o_br_br⟩
    · exact ⟨⟨_, _, T.told.parts.c_Series⟩, T.o_sr_br⟩
def spWraps (cl : Cl) (C : Addr) : Sp := fun vs H Q _ => ∃ (a dx : Addr) (fs : List (Str × V)) (s : Bool) (v : V) (c : Cond), vs = [.ref a, v] ∧ H a = some (.ins C dx fs) ∧ C = cl.gr s ∧ IsP cl H v c ∧ Q (.bl (wraps s c)) H
theorem disp_wraps (T : TText K mg cl gp) : DispAt P w K mg base CX0 cl.grp "wraps" 1 ["self", "part"] (spWraps cl) := by
  refine ⟨fun C hC => ?_⟩
  rcases hC with rfl | rfl
  · refine methAt_ok T.told.parts.c_Series.cl T.m_wraps_sr sc_Group_wraps (fun vs H Q E h => ?_) (fun f cdv A outer st H vs Q E hr h => ?_)
    · obtain ⟨a, dx, fs, s, v, c, rfl, _⟩ := h; rfl
    · obtain ⟨a, dx, fs, s, v, c, rfl, ha, hs, p, q⟩ := h
      refine ⟨_, (pss_one (ps_ret (pe_callB (call_isO T.is_Group) (by rfl) T.z_isinstance (by decide +kernel) (pa_cons (pv 1) (pa_cons (pe_cls T.c_Group) pa_nil))))), ?_⟩
      cases s
      · exact absurd hs T.told.parts.srbr
      · obtain ⟨a', dx', fs', rfl, ha'⟩ := p.ins
        exact ⟨_, rfl, a', _, dx', fs', _, rfl, ha', ⟨c, rfl, rfl⟩, q⟩
  · refine methAt_ok T.told.parts.c_Branch.cl T.m_wraps_br sc_Branch_wraps (fun vs H Q E h => ?_) (fun f cdv A outer st H vs Q E hr h => ?_)
    · obtain ⟨a, dx, fs, s, v, c, rfl, _⟩ := h; rfl
    · obtain ⟨a, dx, fs, s, v, c, rfl, ha, hs, p, q⟩ := h
      refine ⟨_, (pss_one (ps_ret (pe_callB (call_isO T.is_Branch) (by rfl) T.z_isinstance (by decide +kernel) (pa_cons (pv 1) (pa_cons (pe_cls T.c_Branch) pa_nil))))), ?_⟩
      cases s
      · obtain ⟨a', dx', fs', rfl, ha'⟩ := p.ins
        exact ⟨_, rfl, a', _, dx', fs', _, rfl, ha', ⟨c, rfl, rfl⟩, q⟩
      · exact absurd hs.symm T.told.parts.srbr
def spText (cl : Cl) (n : Nat) (C : Addr) : Sp := fun vs H Q _ => ∃ (a dx : Addr) (fs : List (Str × V)) (c : Cond), vs = [.ref a] ∧ H a = some (.ins C dx fs) ∧ IsP cl H (.ref a) c ∧ c.ok = true ∧ c.depth ≤ n ∧ c.size ≤ 1000 ∧
  ∀ H' : Hp, Same H H' → Q (.str c.text) H'
def spBr (cl : Cl) (n : Nat) : Sp := fun vs H Q _ => ∃ (v : V) (c : Cond) (b : Bool), vs = [v, .bl b] ∧ IsP cl H v c ∧ c.ok = true ∧ c.depth ≤ n ∧ c.size ≤ 1000 ∧ ∀ H' : Hp, Same H H' → Q (.str (wrapT b c.text)) H'
theorem ok_br (T : TText K mg cl gp) {n k : Nat} (G_text : DispAt P w K mg base CX0 cl.has "text" k ["self"] (spText cl n)) : FnAt P w K mg base CX0 "bracketed" (k + 1) ["part", "wrapped"] (spBr cl n) := by
  refine fnAt_ok T.d_bracketed sc_bracketed (fun vs H Q E h => ?_) (fun f cdv A outer s H vs Q E hr h => ?_)
  · obtain ⟨v, c, b, rfl, _⟩ := h; rfl
  · obtain ⟨v, c, b, rfl, p, hok, hd, hz, q⟩ := h
    refine ⟨_, (pss_cons (ps_if (pt_val (pv 1)) (pss_one (ps_ret (pe_op op_add_str (pe_op op_add_str pe_str (pe_methD0 G_text hr pass0 (pv 0) (Nat.le_refl _))) pe_str))) pss_nil)
        (pss_one (ps_ret (pe_methD0 G_text hr pass0 (pv 0) (Nat.le_refl _))))), ?_⟩
    walk_at "rd"
    obtain ⟨a, C, dx, fs, rfl, ha, hC, hl⟩ := meth_of (m := "text") (by decide +kernel) p
    have hlen := text_len hok
    cases b
    · exact iteF ⟨_, rfl, a, C, dx, fs, rfl, ha, hC, hl, a, dx, fs, c, rfl, ha, p, hok, hd, hz, fun H1 s1 => q _ s1⟩
    · refine iteT ⟨_, rfl, a, C, dx, fs, rfl, ha, hC, hl, a, dx, fs, c, rfl, ha, p, hok, hd, hz, fun H1 s1 => ⟨_, rfl, line_ge (by rw [show (Str.ofString "(").length = 1 from l_op]; omega), line_ge (by rw [len_app, show (Str.ofString "(").length = 1 from l_op, show (Str.ofString ")").length = 1 from l_cl]; omega), q _ s1⟩⟩
theorem ok_text_fx (T : TText K mg cl gp) (n : Nat) : ∃ f fd, Cls K cl.fx ∧ Meth K cl.fx "text" f ∧ Binds K fd ["self"] [] ∧ FnOk P w K mg base CX0 1 f fd ["self"] (spText cl n cl.fx) := by
  refine methAt_ok T.told.parts.c_Fixed.cl T.m_text_fx sc_Fixed_text (fun vs H Q E h => ?_) (fun f cdv A outer s H vs Q E hr h => ?_)
  · obtain ⟨a, dx, fs, c, rfl, _⟩ := h; rfl
  · obtain ⟨a, dx, fs, c, rfl, ha, p, hok, hd, hz, q⟩ := h
    obtain ⟨b, rfl, rfl⟩ := inv_fx T.told.parts.nd ha p
    refine ⟨_, (pss_one (ps_ret (pe_ifExp (pt_val (pe_fld (pv 0) rfl)) pe_str pe_str))), ?_⟩
    walk_at "rd"
    refine ⟨_, rfl, a, _, dx, _, _, rfl, ha, T.told.parts.c_Fixed.cl, T.told.parts.nv_fx, lk1s, b, rfl, ?_⟩
    cases b
    · exact iteF (q _ (Same.refl _))
    · exact iteT (q _ (Same.refl _))
theorem ok_text_ct (T : TText K mg cl gp) (n : Nat) : ∃ f fd, Cls K cl.ct ∧ Meth K cl.ct "text" f ∧ Binds K fd ["self"] [] ∧ FnOk P w K mg base CX0 1 f fd ["self"] (spText cl n cl.ct) := by
  refine methAt_ok T.told.parts.c_Contact.cl T.m_text_ct sc_Contact_text (fun vs H Q E h => ?_) (fun f cdv A outer s H vs Q E hr h => ?_)
  · obtain ⟨a, dx, fs, c, rfl, _⟩ := h; rfl
  · obtain ⟨a, dx, fs, c, rfl, ha, p, hok, hd, hz, q⟩ := h
    obtain ⟨b, rfl, rfl⟩ := inv_ct T.told.parts.nd ha p
    refine ⟨_, (pss_one (ps_ret (pe_fld (pv 0) rfl))), ?_⟩
    exact ⟨_, rfl, a, _, dx, _, _, rfl, ha, T.told.parts.c_Contact.cl, T.told.parts.nn_ct, lk1s, q _ (Same.refl _)⟩
theorem ok_text_tn (T : TText K mg cl gp) {n k : Nat} (G_text : DispAt P w K mg base CX0 cl.has "text" k ["self"] (spText cl n)) :
    ∃ f fd, Cls K cl.tn ∧ Meth K cl.tn "text" f ∧ Binds K fd ["self"] [] ∧ FnOk P w K mg base CX0 (k + 1 + 1) f fd ["self"] (spText cl (n + 1) cl.tn) := by
  have G_bracketed : FnAt P w K mg base CX0 "bracketed" (k + 1) _ (spBr cl n) := ok_br T G_text
  refine methAt_ok T.told.parts.c_Turned.cl T.m_text_tn sc_Turned_text (fun vs H Q E h => ?_) (fun f cdv A outer s H vs Q E hr h => ?_)
  · obtain ⟨a, dx, fs, c, rfl, _⟩ := h; rfl
  · obtain ⟨a, dx, fs, c, rfl, ha, p, hok, hd, hz, q⟩ := h
    obtain ⟨v, c', rfl, rfl, p'⟩ := inv_tn T.told.parts.nd ha p
    have hlen := text_len hok
    rw [Cond.depth] at hd
    rw [Cond.size] at hz
    refine ⟨_, (pss_one (ps_ret (pe_op op_add_str pe_str (pe_callF G_bracketed hr pass0 (pa_cons (pe_fld (pv 0) rfl) (pa_cons (pe_callB (call_isO T.is_Group) (by rfl) T.z_isinstance (by decide +kernel) (pa_cons (pe_fld (pv 0) rfl) (pa_cons (pe_cls T.c_Group) pa_nil))) pa_nil)) (Nat.le_refl _))))), ?_⟩
    walk_at "rd"
    obtain ⟨a', dx', fs', rfl, ha'⟩ := p'.ins
    refine ⟨_, rfl, a, _, dx, _, _, rfl, ha, T.told.parts.c_Turned.cl, T.told.parts.np_tn, lk1s, ?_⟩
    have hok' : c'.ok = true := hok
    have h1 := wrapT_len c'.isGrp c'.text
    have h2 := text_len hok'
    exact ⟨_, rfl, a, _, dx, _, _, rfl, ha, T.told.parts.c_Turned.cl, T.told.parts.np_tn, lk1s, a', _, dx', fs', _, rfl, ha', ⟨c', rfl, rfl⟩, .ref a', c', _, rfl, p', hok', by omega, by omega, fun H1 s1 => ⟨_, rfl, line_ge (by rw [show (Str.ofString "not ").length = 4 from l_not]; omega), q _ s1⟩⟩
theorem ok_text_gr (T : TText K mg cl gp) {n k : Nat} (G_text : DispAt P w K mg base CX0 cl.has "text" k ["self"] (spText cl n)) (hk : 1 ≤ k + 1) (s : Bool) (D : MethAt K (cl.gr s) "text" "Group.text" s_Group_text ["self"]) :
    ∃ f fd, Cls K (cl.gr s) ∧ Meth K (cl.gr s) "text" f ∧ Binds K fd ["self"] [] ∧ FnOk P w K mg base CX0 (k + 1 + 1) f fd ["self"] (spText cl (n + 1) (cl.gr s)) := by
  have G_word : DispAt P w K mg base CX0 cl.grp "word" 1 ["self"] (spWordM cl) := disp_word T.told
  have G_wraps : DispAt P w K mg base CX0 cl.grp "wraps" 1 ["self", "part"] (spWraps cl) := disp_wraps T
  have G_bracketed : FnAt P w K mg base CX0 "bracketed" (k + 1) _ (spBr cl n) := ok_br T G_text
  refine methAt_ok (T.told.parts.cls (cl.has_gr s)) D sc_Group_text (fun vs H Q E h => ?_) (fun f cdv A outer st H vs Q E hr h => ?_)
  · obtain ⟨a, dx, fs, c, rfl, _⟩ := h; rfl
  · obtain ⟨a, dx, fs, c, rfl, ha, p, hok, hd, hz, q⟩ := h
    obtain ⟨t, ws, cs, rfl, rfl, ht, ps⟩ := inv_gr T.told.parts.nd rfl ha p
    rw [Cond.depth] at hd
    rw [Cond.size] at hz
    have hlen := ps.length
    have hz2 := Cond.len_sizes cs
    refine ⟨_, (pss_cons (ps_set (i := 1) sc_Group_text.nd rfl (by first | exact Or.inl rfl | exact Or.inr rfl) (pe_op op_add_str (pe_op op_add_str pe_str (pe_methD0 G_word hr pass0 (pv 0) hk)) pe_str))
        (pss_cons (ps_setLc (i := 2) (own := [("part", 3)]) (g := gName 3) (tt := tYes) rfl sc_Group_text.nd rfl rfl (sw_true rfl rfl rfl (by decide +kernel)) (pi_tup (pe_fld (pv 0) rfl)) (blkOk_by (own := [("part", 3)]) (N := ["self", "between", "texts", "part"]) (sc := defScope s_Group_text) (by decide +kernel)) (fun _ _ _ _ _ => pg_name (i := 3) sc_Group_text.nd rfl (Or.inl rfl)) (fun _ _ _ _ _ => pts_nil) (fun _ _ _ _ _ => (pe_callF G_bracketed hr pass0 (pa_cons (pv 3) (pa_cons (pe_methD G_wraps hr pass0 (pv 0) (pa_cons (pv 3) pa_nil) hk) pa_nil)) (Nat.le_refl _))))
        (pss_one (ps_ret (pe_join (pv 1) (pv 2)))))), ?_⟩
    walk_at "rd"
    refine ⟨_, rfl, a, _, dx, _, rfl, ha, cl.grp_gr s, lk1 (by decide +kernel), a, dx, _, s, rfl, ha, rfl, ?_⟩
    rw [Cond.ok, Bool.and_eq_true] at hok
    have lw := l_word s
    have np := T.told.parts.np s
    have hu := T.told.parts.cls (cl.has_gr s)
    refine ⟨_, rfl, line_ge (by rw [show (Str.ofString " ").length = 1 from l_sp]; omega), line_ge (by rw [len_app, show (Str.ofString " ").length = 1 from l_sp]; omega), ?_⟩
    refine ⟨_, rfl, a, _, dx, _, _, rfl, ha, hu, np, lk1s, t, rfl, ⟨_, SqT.of ht⟩, fun D nD => lc_tup (K := K) (a := t) (xs := ws) (fun i H' => Same H H' ∧ H' D = some (.lst ((cs.map fun c => V.str (wrapT (wraps s c) c.text)).take i)))
      ⟨Same.new nD, upd_same⟩ (fun i H' _ q => SqT.of (q.1 _ _ ht)) ?_ ?_⟩
    · rintro i y H2 hy ⟨q1, q2⟩
      obtain ⟨c', hc', p'⟩ := (ps.mono (Same.imm q1)).at hy
      have hm := List.mem_of_getElem? hc'
      have h1 := Cond.depth_mem hm
      have h2 := Cond.size_mem hm
      refine ⟨rfl, _, rfl, _, rfl, a, _, dx, _, rfl, q1 _ _ ha, cl.grp_gr s, lk1 (by decide +kernel), _, rfl, a, dx, _, s, y, c', rfl, q1 _ _ ha, rfl, p', y, c', _, rfl, p', Cond.oks_mem hok.2 hm, by omega, by omega, fun H3 s3 => ?_⟩
      exact lc_push (q1.trans s3) nD (s3 _ _ q2) (by rw [List.getElem?_map, hc']; rfl) (by rw [List.length_map]; omega)
    · rintro H2 ⟨q1, q2⟩
      rw [hlen, List.take_of_length_le (by simp)] at q2
      have ht1 := texts_len s hok.2
      have ht2 : (Cond.texts s cs).length = cs.length := by rw [Cond.texts_map, List.length_map]
      have ht3 : (Cond.texts s cs).length * (Str.ofString " " ++ word s ++ Str.ofString " ").length ≤ cs.length * 5 := by
        rw [ht2]
        refine Nat.mul_le_mul_left _ ?_
        rw [len_app, len_app, show (Str.ofString " ").length = 1 from l_sp]
        omega
      refine ⟨_, rfl, ⟨_, rfl⟩, _, rfl, _, rfl, D, rfl, Cond.texts s cs, .inl (SqL.of ?_), by omega, q _ q1⟩
      rw [q2, Cond.texts_map, List.map_map]
      rfl
theorem disp_text (T : TText K mg cl gp) : ∀ n : Nat, DispAt P w K mg base CX0 cl.has "text" (2 * n + 1) ["self"] (spText cl n)
  | 0 => by
    refine ⟨fun C hC => ?_⟩
    have vac : ∀ C vs H Q E, spText cl 0 C vs H Q E → False := by
      rintro C vs H Q E ⟨a, dx, fs, c, rfl, ha, p, _, hd, _⟩
      exact absurd c.depth_pos (by omega)
    rcases hC with rfl | rfl | rfl | rfl | rfl
    · exact ok_text_fx T 0
    · exact ok_text_ct T 0
    all_goals
      refine methAt_ok (T.told.parts.cls (by simp [Cl.has])) (by first | exact T.m_text_tn | exact T.m_text_sr | exact T.m_text_br) (by first | exact sc_Turned_text | exact sc_Group_text) (fun vs H Q E h => (vac _ _ _ _ _ h).elim) (fun f cdv A outer s H vs Q E hr h => (vac _ _ _ _ _ h).elim)
  | n + 1 => by
    have ih := disp_text T n
    refine ⟨fun C hC => ?_⟩
    rcases hC with rfl | rfl | rfl | rfl | rfl
    · obtain ⟨f, fd, h1, h2, h3, h4⟩ := ok_text_fx (P := P) (w := w) (base := base) T (n + 1)
      exact ⟨f, fd, h1, h2, h3, h4.mono (by omega)⟩
    · obtain ⟨f, fd, h1, h2, h3, h4⟩ := ok_text_ct (P := P) (w := w) (base := base) T (n + 1)
      exact ⟨f, fd, h1, h2, h3, h4.mono (by omega)⟩
    · exact ok_text_tn T ih
    · exact ok_text_gr T ih (by omega) true T.m_text_sr
    · exact ok_text_gr T ih (by omega) false T.m_text_br
end

/-! ## equal data: what can be laid -/
section
variable {K : PySem.W.Frag}
theorem shaped_of {d : PyData} (h : d.canLay0 = true) (hd : d.depth ≤ 64) : SeqAt.shaped d = true := by
  unfold SeqAt.shaped
  rw [h, decide_eq_true hd]
  rfl
mutual
theorem told_lay : ∀ {c : Cond}, c.ok = true → c.told.canLay0 = true ∧ c.told.depth ≤ c.depth
  | .fixed b, _ => ⟨by show (PyData.strOk "fixed" && (true && true)) = true; decide +kernel, by simp [Cond.told, Cond.depth, PyData.depth, PyData.depthAll]⟩
  | .contact n, h => ⟨by
      have e : PyData.strOk n = true := by
        rw [Cond.ok] at h
        unfold isName isWord at h
        simp only [Bool.and_eq_true, List.all_eq_true] at h
        unfold PyData.strOk
        rw [Array.all_eq_true_iff_forall_mem]
        intro x hx
        have := h.1.1.1 x (by simpa using hx)
        unfold isLow at this
        have := of_decide_eq_true this
        exact decide_eq_true (by omega)
      show (PyData.strOk "contact" && (PyData.strOk n && true)) = true
      rw [e]
      decide +kernel, by simp [Cond.told, Cond.depth, PyData.depth, PyData.depthAll]⟩
  | .not c, h => by
    have ih := told_lay (c := c) h
    refine ⟨?_, ?_⟩
    · show (PyData.strOk "not" && (c.told.canLay0 && true)) = true
      rw [ih.1]
      decide +kernel
    · have := ih.2
      simp [Cond.told, Cond.depth, PyData.depth, PyData.depthAll]
      omega
  | .grp s cs, h => by
    rw [Cond.ok, Bool.and_eq_true] at h
    have ih := tolds_lay (cs := cs) h.2
    refine ⟨?_, ?_⟩
    · show (PyData.strOk (word s) && PyData.canLayAll0 (Cond.tolds cs)) = true
      rw [ih.1]
      cases s <;> decide +kernel
    · have := ih.2
      simp [Cond.told, Cond.depth, PyData.depth, PyData.depthAll]
      omega
theorem tolds_lay : ∀ {cs : List Cond}, Cond.oks cs = true → PyData.canLayAll0 (Cond.tolds cs) = true ∧ PyData.depthAll (Cond.tolds cs) ≤ Cond.depths cs
  | [], _ => ⟨rfl, Nat.le_refl _⟩
  | c :: cs, h => by
    rw [Cond.oks, Bool.and_eq_true] at h
    have h1 := told_lay h.1
    have h2 := tolds_lay (cs := cs) h.2
    refine ⟨?_, ?_⟩
    · show (c.told.canLay0 && PyData.canLayAll0 (Cond.tolds cs)) = true
      rw [h1.1, h2.1]
      rfl
    · have := h1.2
      have := h2.2
      simp [Cond.tolds, Cond.depths, PyData.depthAll]
      omega
end
theorem told_shaped {c : Cond} (h : c.ok = true) (hd : c.depth ≤ 60) : SeqAt.shaped c.told = true := shaped_of (told_lay h).1 (by have := (told_lay h).2; omega)
theorem told_eqv {c : Cond} (h : c.ok = true) : PyData.eqv c.told c.told = true := SeqAt.eqv_refl _ (told_lay h).1
theorem tolds_shaped {cs : List Cond} (h : Cond.oks cs = true) (hd : Cond.depths cs ≤ 60) : SeqAt.shaped (.list (Cond.tolds cs)) = true := shaped_of (tolds_lay h).1 (by have := (tolds_lay h).2; simp [PyData.depth]; omega)
theorem tolds_eqv {cs : List Cond} (h : Cond.oks cs = true) : PyData.eqv (.list (Cond.tolds cs)) (.list (Cond.tolds cs)) = true := SeqAt.eqv_refl _ (tolds_lay h).1
theorem name_strOk {n : Str} (h : isName n = true) : PyData.strOk n = true := by
  unfold isName isWord at h
  simp only [Bool.and_eq_true, List.all_eq_true] at h
  unfold PyData.strOk
  rw [Array.all_eq_true_iff_forall_mem]
  intro x hx
  have := h.1.1.1 x (by simpa using hx)
  unfold isLow at this
  have := of_decide_eq_true this
  exact decide_eq_true (by omega)
theorem strs_dp {H : Hp} : ∀ l : List Str, DpAll K H (l.map V.str) (l.map PyData.str)
  | [] => .nil
  | n :: l => .cons (.str n) (strs_dp l)
theorem strs_lay : ∀ {l : List Str}, (∀ x ∈ l, isName x = true) → PyData.canLayAll0 (l.map PyData.str) = true
  | [], _ => rfl
  | n :: l, h => by
    show (PyData.strOk n && PyData.canLayAll0 (l.map PyData.str)) = true
    rw [name_strOk (h n List.mem_cons_self), strs_lay fun x hx => h x (List.mem_cons_of_mem _ hx)]
    rfl
theorem strs_flat : ∀ l : List Str, PyData.depthAll (l.map PyData.str) = 0
  | [] => rfl
  | n :: l => by
    rw [List.map_cons, PyData.depthAll, strs_flat l]
    rfl
theorem strs_shaped {l : List Str} (h : ∀ x ∈ l, isName x = true) : SeqAt.shaped (.list (l.map PyData.str)) = true := shaped_of (strs_lay h) (by rw [PyData.depth, strs_flat]; omega)
theorem strs_eqv {l : List Str} (h : ∀ x ∈ l, isName x = true) : PyData.eqv (.list (l.map PyData.str)) (.list (l.map PyData.str)) = true := SeqAt.eqv_refl _ (strs_lay h)
end

/-! ## texts can be laid -/
theorem strOk_app (a b : Str) : PyData.strOk (a ++ b) = (PyData.strOk a && PyData.strOk b) := by
  show PyData.strOk (Str.append a b) = _
  unfold PyData.strOk Str.append
  simp [Array.all_append]
theorem strOk_join0 (sep : Str) (hs : PyData.strOk sep = true) : ∀ ys : List Str, (∀ y ∈ ys, PyData.strOk y = true) → PyData.strOk (Str.join sep ys) = true
  | [], _ => by
    rw [Str.join]
    decide +kernel
  | [x], h => by
    rw [Str.join]
    exact h x List.mem_cons_self
  | x :: y :: r, h => by
    have ih := strOk_join0 sep hs (y :: r) fun z hz => h z (List.mem_cons_of_mem _ hz)
    rw [Str.join, strOk_app, strOk_app, h x List.mem_cons_self, hs, ih]
    · rfl
    · simp
theorem strOk_join {sep : Str} {ys : List Str} (hs : PyData.strOk sep = true) (h : ∀ y ∈ ys, PyData.strOk y = true) : PyData.strOk (Txt.join sep ys) = true := by
  rw [show Txt.join sep ys = Str.join sep ys from eq_of_beq (PyProof.Rows.join_plain_closes sep ys)]
  exact strOk_join0 sep hs ys h
theorem strOk_wrap {b : Bool} {t : Str} (h : PyData.strOk t = true) : PyData.strOk (wrapT b t) = true := by
  unfold wrapT
  split
  · rw [strOk_app, strOk_app, h]
    decide +kernel
  · exact h
mutual
theorem text_strOk : ∀ {c : Cond}, c.ok = true → PyData.strOk c.text = true
  | .fixed b, _ => by cases b <;> decide +kernel
  | .contact n, h => name_strOk h
  | .not c, h => by
    show PyData.strOk ("not " ++ wrapT c.isGrp c.text) = true
    rw [strOk_app, strOk_wrap (text_strOk (c := c) h)]
    decide +kernel
  | .grp s cs, h => by
    rw [Cond.ok, Bool.and_eq_true] at h
    refine strOk_join ?_ (texts_strOk s h.2)
    cases s <;> decide +kernel
theorem texts_strOk (s : Bool) : ∀ {cs : List Cond}, Cond.oks cs = true → ∀ y ∈ Cond.texts s cs, PyData.strOk y = true
  | [], _, y, hy => by cases hy
  | c :: cs, h, y, hy => by
    rw [Cond.oks, Bool.and_eq_true] at h
    rw [Cond.texts] at hy
    rcases List.mem_cons.mp hy with rfl | hy
    · exact strOk_wrap (text_strOk h.1)
    · exact texts_strOk s h.2 y hy
end
theorem strs_lay' : ∀ {l : List Str}, (∀ x ∈ l, PyData.strOk x = true) → PyData.canLayAll0 (l.map PyData.str) = true
  | [], _ => rfl
  | n :: l, h => by
    show (PyData.strOk n && PyData.canLayAll0 (l.map PyData.str)) = true
    rw [h n List.mem_cons_self, strs_lay' fun x hx => h x (List.mem_cons_of_mem _ hx)]
    rfl
theorem strs_shaped' {l : List Str} (h : ∀ x ∈ l, PyData.strOk x = true) : SeqAt.shaped (.list (l.map PyData.str)) = true := shaped_of (strs_lay' h) (by rw [PyData.depth, strs_flat]; omega)
theorem strs_eqv' {l : List Str} (h : ∀ x ∈ l, PyData.strOk x = true) : PyData.eqv (.list (l.map PyData.str)) (.list (l.map PyData.str)) = true := SeqAt.eqv_refl _ (strs_lay' h)

/-! ## images -/
theorem put_len (kvs : List (Key × V)) (k : Key) (x : V) : (putK kvs k x).length ≤ kvs.length + 1 := by
  unfold putK
  split
  · rw [List.length_map]; omega
  · rw [List.length_append, List.length_singleton]; omega
theorem GoodD.put {kvs : List (Key × V)} (g : GoodD kvs) (hl : kvs.length < 100) (k : Key) (b : Bool) : GoodD (putK kvs k (.bl b)) := by
  refine ⟨fun p hp => ?_, by have := put_len kvs k (V.bl b); omega⟩
  rw [valV_put]
  unfold putK at hp
  split at hp
  · obtain ⟨q, hq, e⟩ := List.mem_map.mp hp
    by_cases h : q.1 = k
    · rw [if_pos h] at e
      subst e
      rw [if_pos h]
      exact ⟨rfl, b, rfl⟩
    · rw [if_neg h] at e
      subst e
      rw [if_neg h]
      exact g.1 _ hq
  · rename_i hn
    rcases List.mem_append.mp hp with hp | hp
    · by_cases h : p.1 = k
      · exfalso
        apply hn
        rw [List.any_eq_true]
        exact ⟨p, hp, decide_eq_true h⟩
      · rw [if_neg h]
        exact g.1 p hp
    · rw [List.mem_singleton.mp hp, if_pos rfl]
      exact ⟨rfl, b, rfl⟩
theorem le_put {j : Nat} (kvs : List (Key × V)) (n : Str) (x : V) (h : kvs.length ≤ j) : (putK kvs (Sum.inr n : Key) x).length ≤ j + 1 := by
  have := put_len kvs (Sum.inr n) x
  omega
theorem no_false (f : Im) : ∀ cs : List Cond, (!inV (.bl false) (cs.map fun c => V.bl (c.holds f))) = Cond.alls f cs
  | [] => rfl
  | c :: cs => by
    have ih := no_false f cs
    unfold inV at ih ⊢
    rw [List.map_cons, List.any_cons, Bool.not_or, ih, Cond.alls]
    cases c.holds f <;> simp [eqV]
theorem some_true (f : Im) : ∀ cs : List Cond, inV (.bl true) (cs.map fun c => V.bl (c.holds f)) = Cond.anys f cs
  | [] => rfl
  | c :: cs => by
    have ih := some_true f cs
    unfold inV at ih ⊢
    rw [List.map_cons, List.any_cons, ih, Cond.anys]
    cases c.holds f <;> simp [eqV]

/-! ## k06: what is asked, and some conditions -/
abbrev s__law_asked : Stmt := top 33
theorem sc__law_asked : FnScope ["_law_parts", "_law_image", "_law_turn", "_law_part"] ["_law_parts", "_law_image", "_law_turn"] (defScope s__law_asked) := ⟨rfl, rfl, rfl, by decide +kernel, rfl, by decide +kernel, by decide +kernel⟩
abbrev s__law_some : Stmt := top 34
theorem sc__law_some : FnScope ["_law_script", "_law_names_here", "_law_trees_here", "_law_told"] ["_law_script", "_law_names_here"] (defScope s__law_some) := ⟨rfl, rfl, rfl, by decide +kernel, rfl, by decide +kernel, by decide +kernel⟩
structure TSome (K : PySem.W.Frag) (mg : Str → Option Value) (cl : Cl) (gp : Addr) : Prop where
  trees : TTrees K mg
  text : TText K mg cl gp
  holds : THolds K mg cl
  d_asked : DefAt K mg "_law_asked" s__law_asked ["_law_parts", "_law_image", "_law_turn"]
  d_some : DefAt K mg "_law_some" s__law_some ["_law_script", "_law_names_here"]
theorem cutV_four (l : List V) : cutV l (some (-4)) none = l.drop (l.length - 4) := by
  unfold cutV
  rw [HT.sIx_none]
  have e : HT.sIx l.length 0 (some (-4)) = l.length - 4 := by
    show (if (-4 : Int) < 0 then ((-4 : Int) + (l.length : Int)).toNat else min (-4 : Int).toNat l.length) = _
    rw [if_pos (by decide)]
    omega
  rw [e]
  exact List.take_of_length_le (by rw [List.length_drop]; omega)
theorem atI_neg {xs : List V} {v : V} {i : Int} (n : Nat) (hi : i = -(n : Int)) (hn : 0 < n) (h : n ≤ xs.length) (e : xs[xs.length - n]? = some v) : atI xs i = some v := by
  subst hi
  have e1 : ixN xs.length (-(n : Int)) = some (xs.length - n) := by
    unfold ixN
    rw [if_neg (by omega), if_pos (by omega)]
    congr 1
    omega
  unfold atI
  rw [e1]
  exact e
theorem atI_m2 (us : List V) (x y : V) : atI (us ++ [x, y]) (-2) = some x := atI_neg 2 rfl (by decide) (by simp) (by simp)
theorem atI_m1 (us : List V) (x y : V) : atI (us ++ [x, y]) (-1) = some y := atI_neg 1 rfl (by decide) (by simp) (by simp)
theorem IsPs.app {cl : Cl} {H : Hp} : ∀ {vs ws : List V} {cs ds : List Cond}, IsPs cl H vs cs → IsPs cl H ws ds → IsPs cl H (vs ++ ws) (cs ++ ds)
  | _, _, _, _, .nil, q => q
  | _, _, _, _, .cons p t, q => .cons p (t.app q)
theorem ixN_0 {n : Nat} (h : 0 < n) : ixN n 0 = some 0 := by
  unfold ixN
  simp
  omega
theorem atI_endS {xs : List V} {x : V} (h : xs[xs.length - 1]? = some x) : atI xs (-1) = some x := by
  have hne : xs ≠ [] := by rintro rfl; simp at h
  have hp := List.length_pos_iff.mpr hne
  have e := List.dropLast_concat_getLast hne
  have e2 : xs.getLast hne = x := by
    rw [List.getLast_eq_getElem]
    rw [List.getElem?_eq_getElem (by omega)] at h
    injection h
  rw [e2] at e
  have h2 := atI_last xs.dropLast x
  rw [e] at h2
  exact h2
def Small (c : Cond) : Prop := c.ok = true ∧ c.size ≤ 12
theorem sizes_small : ∀ {cs : List Cond}, (∀ c ∈ cs, Small c) → Cond.sizes cs ≤ 12 * cs.length
  | [], _ => Nat.zero_le _
  | c :: cs, h => by
    have h1 := (h c List.mem_cons_self).2
    have h2 := sizes_small fun x hx => h x (List.mem_cons_of_mem _ hx)
    rw [Cond.sizes, List.length_cons]
    omega
theorem sizes_app : ∀ a b : List Cond, Cond.sizes (a ++ b) = Cond.sizes a + Cond.sizes b
  | [], b => by simp [Cond.sizes]
  | x :: a, b => by rw [List.cons_append, Cond.sizes, Cond.sizes, sizes_app a b]; omega
theorem small_depths : ∀ {cs : List Cond}, (∀ c ∈ cs, Small c) → Cond.depths cs ≤ 12 ∧ Cond.oks cs = true
  | [], _ => ⟨Nat.zero_le _, rfl⟩
  | c :: cs, h => by
    have h1 := h c List.mem_cons_self
    have h2 := small_depths fun x hx => h x (List.mem_cons_of_mem _ hx)
    have h3 : c.depth ≤ c.size := by
      rw [Cond.depth_kids, Cond.size_kids]
      have := Cond.depths_le c.kids
      omega
    rw [Cond.depths, Cond.oks, h1.1, h2.2]
    exact ⟨by have := h1.2; omega, rfl⟩
section
variable {P : Program} {w : World} {K : PySem.W.Frag} {mg : Str → Option Value} {base : Heap} {cl : Cl} {gp : Addr}
def spSome (K : PySem.W.Frag) : Sp := fun vs H Q _ => ∃ (a q : Addr) (script : List Int) (ns : List Str), vs = [.ref a, .ref q] ∧ SqL K H a (script.map V.int) ∧ Names5 H q ns ∧
  ∀ (H' : Hp) (p : Addr) (ws : List V) (cs : List Cond), Same H H' → H p = none → H' p = some (.lst ws) → IsTs H' ws cs → (∀ c ∈ cs, Small c) → 2 ≤ cs.length → cs.length ≤ 6 → Cond.sizes cs ≤ 50 → Q (.ref p) H'
theorem ok_some (T : TSome K mg cl gp) : FnAt P w K mg base CX0 "_law_some" 34 ["_law_script", "_law_names_here"] (spSome K) := by
  have G__law_cell_at : FnAt P w K mg base CX0 "_law_cell_at" 1 _ (spCellAt K) := ok_cell_at T.trees.cells
  have G__law_trees : FnAt P w K mg base CX0 "_law_trees" 33 _ (spTrees K) := ok_trees T.trees
  have G__law_size : FnAt P w K mg base CX0 "_law_size" 32 _ (spLSize 31) := ok_lsize T.trees 31
  refine fnAt_ok T.d_some sc__law_some (fun vs H Q E h => ?_) (fun f cdv A outer s H vs Q E hr h => ?_)
  · obtain ⟨a, q, script, ns, rfl, _⟩ := h; rfl
  · obtain ⟨a, q, script, ns, rfl, hS, hN, k⟩ := h
    refine ⟨_, (pss_cons (ps_set (i := 2) sc__law_some.nd rfl (by first | exact Or.inl rfl | exact Or.inr rfl) (pe_slice sl_list (pe_callF G__law_trees hr pass0 (pa_cons (pv 0) (pa_cons pe_int (pa_cons (pv 1) (pa_cons (pe_op op_add pe_int (pe_op op_mod (pe_callF G__law_cell_at hr pass0 (pa_cons (pv 0) (pa_cons pe_int pa_nil))) pe_int)) pa_nil))))) (po_some (pe_un un_neg pe_int)) po_none))
        (pss_cons (ps_set (i := 2) sc__law_some.nd rfl (by first | exact Or.inl rfl | exact Or.inr rfl) (pe_op op_cat (pe_lc (own := [("_law_told", 3)]) (g := gName 3) rfl sc__law_some.nd (pi_list (pv 2)) (blkOk_by (own := [("_law_told", 3)]) (N := ["_law_script", "_law_names_here", "_law_trees_here", "_law_told"]) (sc := defScope s__law_some) (by decide +kernel)) (fun _ _ _ _ _ => pg_name (i := 3) sc__law_some.nd rfl (Or.inl rfl)) (fun _ _ _ _ _ => (pts_one (pt_cmpR op_lt (pe_callF G__law_size hr pass0 (pa_cons (pv 3) pa_nil)) pe_int (nomark _)))) (fun _ _ _ _ _ => (pv 3))) (pe_lst (pa_cons (pe_tup (pa_cons pe_str (pa_cons (pe_ix ix_list (pv 1) pe_int (fun _ _ => rfl)) pa_nil))) pa_nil))))
        (pss_one (ps_ret (pe_op op_cat (pv 2) (pe_lst (pa_cons (pe_tup (pa_cons pe_str (pa_cons (pe_cmpR op_eq (pe_op op_mod (pe_callF G__law_cell_at hr pass0 (pa_cons (pv 0) (pa_cons pe_int pa_nil))) pe_int) pe_int (nomark _)) pa_nil))) pa_nil))))))), ?_⟩
    walk_at "rd"
    have m0 := Int.emod_nonneg (cellAt script 1) (show (13 : Int) ≠ 0 by decide)
    have m1 := Int.emod_lt_of_pos (cellAt script 1) (show (0 : Int) < 13 by decide)
    refine ⟨a, script, 1, rfl, hS, by decide, _, rfl, ?_⟩
    refine ⟨a, q, script, 4, _, ns, rfl, hS, by decide, by omega, by omega, hN, fun H1 pt ts cs s1 npt hpt hts hgood hne hl20 => ?_⟩
    walk_at "rd"
    refine ⟨4, rfl, _, rfl, pt, ts, rfl, SqL.of hpt, fun q1 nq1 => ?_⟩
    rw [cutV_four]
    have htl := hts.length
    have hd := hts.drop (ts.length - 4)
    have hsub : ∀ c ∈ cs.drop (ts.length - 4), Good 20 c := fun c hc => hgood c (List.mem_of_mem_drop hc)
    have hdl : (cs.drop (ts.length - 4)).length ≤ 4 := by rw [List.length_drop]; omega
    generalize ts.drop (ts.length - 4) = tv at hd nq1
    generalize cs.drop (ts.length - 4) = tc at hd hsub hdl
    have t1 := Same.new (o := .lst tv) nq1
    have hd1 := hd.mono (T := fun _ => False) (Same.imm t1)
    have hq1 : upd H1 q1 (.lst tv) q1 = some (.lst tv) := upd_same
    generalize upd H1 q1 (.lst tv) = H2 at t1 hd1 hq1
    have tl := hd.length
    refine ⟨_, rfl, q1, rfl, ⟨_, SqL.of hq1⟩, fun D nD => lc_list (K := K) (a := q1) (xs := tv) (fun i H' => Same H2 H' ∧ ∃ vs ds, H' D = some (.lst vs) ∧ IsTs H' vs ds ∧ (∀ d ∈ ds, Small d) ∧ ds.length ≤ i)
      ⟨Same.new nD, [], [], upd_same, .nil, by simp, by simp⟩ (fun i H' _ z => SqL.of (z.1 _ _ hq1)) ?_ ?_⟩
    · rintro i y H3 hy ⟨w1, vs, ds, w2, w3, w4, w5⟩
      obtain ⟨c', hc', p'⟩ := (hd1.mono (T := fun _ => False) (Same.imm w1)).at hy
      have hg := hsub c' (List.mem_of_getElem? hc')
      have z1 := hg.2.1
      have z2 := hg.2.2
      have hi : i < tv.length := (List.getElem?_eq_some_iff.mp hy).1
      refine ⟨rfl, _, rfl, y, c', rfl, p', by omega, by omega, fun H4 s4 => ⟨_, _, rfl, rfl, _, rfl, ?_⟩⟩
      by_cases hlt : (c'.size : Int) < 13
      · rw [decide_eq_true hlt]
        have hl := w3.length
        refine iteT ⟨_, rfl, vs, s4 _ _ w2, by rw [sizeLine_eq]; omega, Same.mut (w1.trans s4) nD, vs ++ [y], ds ++ [c'], upd_same, ?_, ?_, by rw [List.length_append, List.length_singleton]; omega⟩
        · have im : Imm (fun _ => False) H4 (upd H4 D (.lst (vs ++ [y]))) := Imm.mut (s4 _ _ w2) id
          exact ((w3.mono (T := fun _ => False) (Same.imm s4)).mono im).snoc ((p'.mono (T := fun _ => False) (Same.imm s4)).mono im)
        · intro d hdm
          rcases List.mem_append.mp hdm with hdm | hdm
          · exact w4 d hdm
          · rw [List.mem_singleton.mp hdm]
            exact ⟨hg.1, by omega⟩
      · rw [decide_eq_false hlt]
        exact iteF ⟨w1.trans s4, vs, ds, s4 _ _ w2, w3.mono (T := fun _ => False) (Same.imm s4), w4, by omega⟩
    rintro H3 ⟨w1, vs, ds, w2, w3, w4, w5⟩
    have hl := w3.length
    have u3 := (s1.trans t1).trans w1
    have hn3 := u3 _ _ hN.at_
    obtain ⟨y, hy, hya⟩ := atI_ex (xs := ns.map V.str) (i := 1) (by decide) (by rw [List.length_map, hN.five]; decide)
    obtain ⟨n, hn, rfl⟩ := List.mem_map.mp hy
    refine ⟨q, _, 1, .str n, rfl, rfl, SqL.of hn3, hya, line_ge (by simp), fun p1 np1 => ⟨line_ge (by simp), fun p2 np2 => ?_⟩⟩
    have v1 := Same.new (o := .tup [.str "contact", .str n]) np1
    have v2 := v1.trans (Same.new (o := .lst [.ref p1]) np2)
    have hp1 := Same.new (o := .lst [.ref p1]) np2 _ _ (upd_same (H := H3) (a := p1) (o := .tup [.str "contact", .str n]))
    refine ⟨D, p2, vs, _, rfl, rfl, v2 _ _ w2, upd_same, line_ge (by simp; omega), fun p3 np3 => ?_⟩
    have v3 := v2.trans (Same.new (o := .lst (vs ++ [.ref p1])) np3)
    have hp3 : upd (upd (upd H3 p1 (.tup [.str "contact", .str n])) p2 (.lst [.ref p1])) p3 (.lst (vs ++ [.ref p1])) p3 = some (.lst (vs ++ [.ref p1])) := upd_same
    have b3 : IsTs _ (vs ++ [.ref p1]) (ds ++ [.contact n]) := (w3.mono (T := fun _ => False) (Same.imm v3)).snoc (.contact (Same.new np3 _ _ hp1))
    generalize upd (upd (upd H3 p1 (.tup [.str "contact", .str n])) p2 (.lst [.ref p1])) p3 (.lst (vs ++ [.ref p1])) = H4 at v3 hp3 b3
    have u4 := u3.trans v3
    refine ⟨a, script, 3, rfl, u4.seq hS, by decide, _, rfl, line_ge (by simp), fun p4 np4 => ⟨line_ge (by simp), fun p5 np5 => ?_⟩⟩
    have x4 := Same.new (o := .tup [.str "fixed", .bl (decide (cellAt script 3 % 2 = 1))]) np4
    have x5 := x4.trans (Same.new (o := .lst [.ref p4]) np5)
    have hp4 := Same.new (o := .lst [.ref p4]) np5 _ _ (upd_same (H := H4) (a := p4) (o := .tup [.str "fixed", .bl (decide (cellAt script 3 % 2 = 1))]))
    refine ⟨p3, p5, vs ++ [.ref p1], _, rfl, rfl, x5 _ _ hp3, upd_same, line_ge (by simp; omega), fun p6 np6 => ?_⟩
    have x6 := x5.trans (Same.new (o := .lst (vs ++ [.ref p1] ++ [.ref p4])) np6)
    refine k _ p6 _ (ds ++ [.contact n] ++ [.fixed (decide (cellAt script 3 % 2 = 1))]) (u4.trans x6) ((u4.trans x5).free np6) upd_same ((b3.mono (T := fun _ => False) (Same.imm x6)).snoc (.fixed (Same.new np6 _ _ hp4))) ?_ (by simp) (by simp; omega) (by rw [sizes_app, sizes_app]; have := sizes_small w4; simp [Cond.sizes, Cond.size]; omega)
    intro c hc
    rcases List.mem_append.mp hc with hc | hc
    · rcases List.mem_append.mp hc with hc | hc
      · exact w4 c hc
      · rw [List.mem_singleton.mp hc]
        exact ⟨hN.ok n hn, by simp [Cond.size]⟩
    · rw [List.mem_singleton.mp hc]
      exact ⟨rfl, by simp [Cond.size]⟩
/-- what an asking gives: tuples, texts or truths -/
def spAskd (cl : Cl) : Sp := fun vs H Q _ => ∃ (p d : Addr) (i : Int) (ws : List V) (cs : List Cond) (kvs : List (Key × V)), vs = [.ref p, .ref d, .int i] ∧ H p = some (.lst ws) ∧ IsPs cl H ws cs ∧ H d = some (.dK kvs) ∧ GoodD kvs ∧ (∀ c ∈ cs, c.ok = true ∧ c.depth ≤ 20 ∧ c.size ≤ 60) ∧ cs.length ≤ 100 ∧
  ∀ (H' : Hp) (q : Addr) (us : List V), Same H H' → H' q = some (.lst us) → (i % 3 = 0 → IsTs H' us cs) → (i % 3 = 1 → us = cs.map fun c => V.str c.text) → (i % 3 ≠ 0 → i % 3 ≠ 1 → us = cs.map fun c => V.bl (c.holds (imF kvs))) → Q (.ref q) H'
theorem ok_askd (T : TSome K mg cl gp) : FnAt P w K mg base CX0 "_law_asked" 42 ["_law_parts", "_law_image", "_law_turn"] (spAskd cl) := by
  have G_told : DispAt P w K mg base CX0 cl.has "told" 21 ["self"] (spTold cl 20) := disp_told T.text.told 20
  have G_text : DispAt P w K mg base CX0 cl.has "text" 41 ["self"] (spText cl 20) := disp_text T.text 20
  have G_holds : DispAt P w K mg base CX0 cl.has "holds" 21 ["self", "image"] (spHolds cl 20) := disp_holds T.holds 20
  refine fnAt_ok T.d_asked sc__law_asked (fun vs H Q E h => ?_) (fun f cdv A outer s H vs Q E hr h => ?_)
  · obtain ⟨p, d, i, ws, cs, kvs, rfl, _⟩ := h; rfl
  · obtain ⟨p, d, i, ws, cs, kvs, rfl, hp, ps, hd, hg, hok, hl, k⟩ := h
    refine ⟨_, (pss_cons (ps_if (pt_cmpR op_eq (pe_op op_mod (pv 2) pe_int) pe_int (nomark _)) (pss_one (ps_ret (pe_lc (own := [("_law_part", 3)]) (g := gName 3) (tt := tYes) rfl sc__law_asked.nd (pi_list (pv 0)) (blkOk_by (own := [("_law_part", 3)]) (N := ["_law_parts", "_law_image", "_law_turn", "_law_part"]) (sc := defScope s__law_asked) (by decide +kernel)) (fun _ _ _ _ _ => pg_name (i := 3) sc__law_asked.nd rfl (Or.inl rfl)) (fun _ _ _ _ _ => pts_nil) (fun _ _ _ _ _ => (pe_methD0 G_told hr pass0 (pv 3)))))) pss_nil)
        (pss_cons (ps_if (pt_cmpR op_eq (pe_op op_mod (pv 2) pe_int) pe_int (nomark _)) (pss_one (ps_ret (pe_lc (own := [("_law_part", 3)]) (g := gName 3) (tt := tYes) rfl sc__law_asked.nd (pi_list (pv 0)) (blkOk_by (own := [("_law_part", 3)]) (N := ["_law_parts", "_law_image", "_law_turn", "_law_part"]) (sc := defScope s__law_asked) (by decide +kernel)) (fun _ _ _ _ _ => pg_name (i := 3) sc__law_asked.nd rfl (Or.inl rfl)) (fun _ _ _ _ _ => pts_nil) (fun _ _ _ _ _ => (pe_methD0 G_text hr pass0 (pv 3)))))) pss_nil)
        (pss_one (ps_ret (pe_lc (own := [("_law_part", 3)]) (g := gName 3) (tt := tYes) rfl sc__law_asked.nd (pi_list (pv 0)) (blkOk_by (own := [("_law_part", 3)]) (N := ["_law_parts", "_law_image", "_law_turn", "_law_part"]) (sc := defScope s__law_asked) (by decide +kernel)) (fun _ _ _ _ _ => pg_name (i := 3) sc__law_asked.nd rfl (Or.inl rfl)) (fun _ _ _ _ _ => pts_nil) (fun _ _ _ _ _ => (pe_methD G_holds hr pass0 (pv 3) (pa_cons (pv 1) pa_nil)))))))), ?_⟩
    walk_at "rd"
    have hlen := ps.length
    by_cases h0 : i % 3 = 0
    · rw [decide_eq_true h0]
      refine iteT ⟨_, rfl, p, rfl, ⟨_, SqL.of hp⟩, fun D nD => lc_list (K := K) (a := p) (xs := ws) (fun i H' => Same H H' ∧ ∃ vs, H' D = some (.lst vs) ∧ IsTs H' vs (cs.take i))
        ⟨Same.new nD, [], upd_same, by simpa using .nil⟩ (fun i H' _ z => SqL.of (z.1 _ _ hp)) ?_ ?_⟩
      · rintro j y H2 hy ⟨w1, vs, w2, w3⟩
        obtain ⟨c', hc', p'⟩ := (ps.mono (Same.imm w1)).at hy
        obtain ⟨a2, C', dx', fs', rfl, ha', hC', hl'⟩ := meth_of (m := "told") (by decide +kernel) p'
        obtain ⟨g1, g2, g3⟩ := hok c' (List.mem_of_getElem? hc')
        refine ⟨rfl, _, rfl, a2, C', dx', fs', rfl, ha', hC', hl', a2, dx', fs', c', rfl, ha', p', g2, by omega, fun H4 v s4 hv => ?_⟩
        have q2' := s4 _ _ w2
        have hl := w3.length
        rw [List.length_take] at hl
        refine ⟨vs, q2', by rw [sizeLine_eq]; omega, Same.mut (w1.trans s4) nD, vs ++ [v], upd_same, ?_⟩
        have im : Imm cl.has H4 (upd H4 D (.lst (vs ++ [v]))) := Imm.mut q2' id
        rw [List.take_succ, hc']
        exact ((w3.mono (T := cl.has) (Same.imm s4)).mono im).snoc (hv.mono im)
      · rintro H2 ⟨w1, vs, w2, w3⟩
        rw [hlen, List.take_of_length_le (Nat.le_refl _)] at w3
        exact k _ D vs w1 w2 (fun _ => w3) (fun e => absurd e (by omega)) (fun e => absurd h0 e)
    · rw [decide_eq_false h0]
      refine iteF ?_
      by_cases h1 : i % 3 = 1
      · rw [decide_eq_true h1]
        refine iteT ⟨_, rfl, p, rfl, ⟨_, SqL.of hp⟩, fun D nD => lc_list (K := K) (a := p) (xs := ws) (fun i H' => Same H H' ∧ H' D = some (.lst ((cs.map fun c => V.str c.text).take i)))
          ⟨Same.new nD, upd_same⟩ (fun i H' _ z => SqL.of (z.1 _ _ hp)) ?_ ?_⟩
        · rintro j y H2 hy ⟨w1, w2⟩
          obtain ⟨c', hc', p'⟩ := (ps.mono (Same.imm w1)).at hy
          obtain ⟨a2, C', dx', fs', rfl, ha', hC', hl'⟩ := meth_of (m := "text") (by decide +kernel) p'
          obtain ⟨g1, g2, g3⟩ := hok c' (List.mem_of_getElem? hc')
          refine ⟨rfl, _, rfl, a2, C', dx', fs', rfl, ha', hC', hl', a2, dx', fs', c', rfl, ha', p', g1, g2, by omega, fun H4 s4 => ?_⟩
          exact lc_push (w1.trans s4) nD (s4 _ _ w2) (by rw [List.getElem?_map, hc']; rfl) (by rw [List.length_map]; omega)
        · rintro H2 ⟨w1, w2⟩
          rw [hlen, List.take_of_length_le (by simp)] at w2
          exact k _ D _ w1 w2 (fun e => absurd e h0) (fun _ => rfl) (fun _ e => absurd h1 e)
      · rw [decide_eq_false h1]
        refine iteF ⟨_, rfl, p, rfl, ⟨_, SqL.of hp⟩, fun D nD => lc_list (K := K) (a := p) (xs := ws) (fun i H' => Same H H' ∧ H' D = some (.lst ((cs.map fun c => V.bl (c.holds (imF kvs))).take i)))
          ⟨Same.new nD, upd_same⟩ (fun i H' _ z => SqL.of (z.1 _ _ hp)) ?_ ?_⟩
        · rintro j y H2 hy ⟨w1, w2⟩
          obtain ⟨c', hc', p'⟩ := (ps.mono (Same.imm w1)).at hy
          obtain ⟨a2, C', dx', fs', rfl, ha', hC', hl'⟩ := meth_of (m := "holds") (by decide +kernel) p'
          obtain ⟨g1, g2, g3⟩ := hok c' (List.mem_of_getElem? hc')
          refine ⟨rfl, _, rfl, a2, C', dx', fs', rfl, ha', hC', hl', _, rfl, a2, dx', d, fs', c', kvs, rfl, ha', p', w1 _ _ hd, hg, g2, by omega, fun H4 s4 => ?_⟩
          exact lc_push (w1.trans s4) nD (s4 _ _ w2) (by rw [List.getElem?_map, hc']; rfl) (by rw [List.length_map]; omega)
        · rintro H2 ⟨w1, w2⟩
          rw [hlen, List.take_of_length_le (by simp)] at w2
          exact k _ D _ w1 w2 (fun e => absurd e h0) (fun e => absurd e h1) (fun _ _ => rfl)
end


/-! ## the law -/
abbrev s_law : Stmt := top 35
theorem sc_law : FnScope ["_law_script", "_law_names_here", "_law_trees_here", "_law_parts", "_law_told", "_law_handed", "_law_series", "_law_others", "_law_branch", "_law_every", "_law_texts", "_law_one", "_law_copied", "_law_code", "_law_mix", "_law_image", "_law_k", "_law_turn", "_law_found", "_law_part"] ["_law_script"] (defScope s_law) := ⟨rfl, rfl, rfl, by decide +kernel, rfl, by decide +kernel, by decide +kernel⟩
structure Txt (K : PySem.W.Frag) (mg : Str → Option Value) (cl : Cl) (gp : Addr) : Prop where
  partof : TPartOf K mg cl
  some_ : TSome K mg cl gp
  z_range : mg "range" = none
  z_len : mg "len" = none
  z_tuple : mg "tuple" = none
  z_list : mg "list" = none
  z_isinstance : mg "isinstance" = none
  law : LawAt K mg s_law "_law_script"
section
variable {P : Program} {w : World} {K : PySem.W.Frag} {mg : Str → Option Value} {base : Heap} {cl : Cl} {gp : Addr}
theorem ok_law (T : Txt K mg cl gp) {f : Addr} {fd : FuncData} (F : Fun K "law" "law" s_law f fd) : FnOk P w K mg base CX0 50 f fd ["_law_script"] (spLaw K) := by
  have G__law_cell_at : FnAt P w K mg base CX0 "_law_cell_at" 1 _ (spCellAt K) := ok_cell_at T.some_.trees.cells
  have G__law_mixed : FnAt P w K mg base CX0 "_law_mixed" 1 _ spMixed := ok_mixed T.some_.trees.cells
  have G__law_names : FnAt P w K mg base CX0 "_law_names" 3 _ spNames := ok_names T.some_.trees
  have G__law_some : FnAt P w K mg base CX0 "_law_some" 34 _ (spSome K) := ok_some T.some_
  have G__law_asked : FnAt P w K mg base CX0 "_law_asked" 42 _ (spAskd cl) := ok_askd T.some_
  have G_part_of : FnAt P w K mg base CX0 "part_of" 26 _ (spPartOf cl) := ok_part_of T.partof
  have G_told : DispAt P w K mg base CX0 cl.has "told" 21 ["self"] (spTold cl 20) := disp_told T.some_.text.told 20
  have G_text : DispAt P w K mg base CX0 cl.has "text" 41 ["self"] (spText cl 20) := disp_text T.some_.text 20
  have G_holds : DispAt P w K mg base CX0 cl.has "holds" 21 ["self", "image"] (spHolds cl 20) := disp_holds T.some_.holds 20
  have M_Turned : MakAt P w K mg base CX0 "Turned" cl.tn 23 ["self", "part"] (spInitTn cl) := ok_init_tn T.partof.make
  have M_Series : MakAt P w K mg base CX0 "Series" cl.sr 23 ["self", "parts"] (spInitGr cl true) := ok_init_gr T.partof.make true T.partof.make.parts.c_Series T.partof.make.i_sr
  have M_Branch : MakAt P w K mg base CX0 "Branch" cl.br 23 ["self", "parts"] (spInitGr cl false) := ok_init_gr T.partof.make false T.partof.make.parts.c_Branch T.partof.make.i_br
  refine F.ok sc_law (fun vs H Q E h => ?_) (fun cdv A outer s H vs Q E hr h => ?_)
  · obtain ⟨a, ns, rfl, _⟩ := h; rfl
  · obtain ⟨a, script, rfl, hS, hlen, k⟩ := h
    have hu := hu_of hr
    refine ⟨_, (pss_cons (ps_set (i := 1) sc_law.nd rfl (by first | exact Or.inl rfl | exact Or.inr rfl) (pe_callF G__law_names hr pass0 (pa_cons (pe_callF G__law_cell_at hr pass0 (pa_cons (pv 0) (pa_cons pe_int pa_nil))) pa_nil)))
        (pss_cons (ps_set (i := 2) sc_law.nd rfl (by first | exact Or.inl rfl | exact Or.inr rfl) (pe_callF G__law_some hr pass0 (pa_cons (pv 0) (pa_cons (pv 1) pa_nil))))
        (pss_cons (ps_setLc (i := 3) (own := [("_law_told", 4)]) (g := gName 4) (tt := tYes) rfl sc_law.nd rfl rfl (sw_true rfl rfl rfl (by decide +kernel)) (pi_list (pv 2)) (blkOk_by (own := [("_law_told", 4)]) (N := ["_law_script", "_law_names_here", "_law_trees_here", "_law_parts", "_law_told", "_law_handed", "_law_series", "_law_others", "_law_branch", "_law_every", "_law_texts", "_law_one", "_law_copied", "_law_code", "_law_mix", "_law_image", "_law_k", "_law_turn", "_law_found", "_law_part"]) (sc := defScope s_law) (by decide +kernel)) (fun _ _ _ _ _ => pg_name (i := 4) sc_law.nd rfl (Or.inl rfl)) (fun _ _ _ _ _ => pts_nil) (fun _ _ _ _ _ => (pe_callF G_part_of hr pass0 (pa_cons (pv 4) pa_nil))))
        (pss_cons (ps_set (i := 5) sc_law.nd rfl (by first | exact Or.inl rfl | exact Or.inr rfl) (pe_callTy call_list_of (by rfl) T.z_list (by decide +kernel) (pa_cons (pv 3) pa_nil)))
        (pss_cons (ps_set (i := 6) sc_law.nd rfl (by first | exact Or.inl rfl | exact Or.inr rfl) (pe_makeF M_Series hr pass0 (pa_cons (pv 5) pa_nil)))
        (pss_cons (ps_set (i := 7) sc_law.nd rfl (by first | exact Or.inl rfl | exact Or.inr rfl) (pe_callTy call_list_of (by rfl) T.z_list (by decide +kernel) (pa_cons (pv 3) pa_nil)))
        (pss_cons (ps_set (i := 8) sc_law.nd rfl (by first | exact Or.inl rfl | exact Or.inr rfl) (pe_makeF M_Branch hr pass0 (pa_cons (pv 7) pa_nil)))
        (pss_cons (ps_expr (pe_bm PySem.F.plainAttrs_list PySem.F.slot_list_append PySem.F.type_list_append mt_append (pv 5) (pa_cons (pe_makeF M_Turned hr pass0 (pa_cons (pe_ix ix_list (pv 3) (pe_un un_neg pe_int) (fun _ _ => rfl)) pa_nil)) pa_nil)))
        (pss_cons (ps_asg (pv 8) (pg_sub (pv 5) pe_int set_list))
        (pss_cons (ps_expr (pe_bm PySem.F.plainAttrs_list PySem.F.slot_list_append PySem.F.type_list_append mt_append (pv 7) (pa_cons (pe_makeF M_Turned hr pass0 (pa_cons (pe_ix ix_list (pv 3) pe_int (fun _ _ => rfl)) pa_nil)) pa_nil)))
        (pss_cons (ps_asg (pv 6) (pg_sub (pv 7) pe_int set_list))
        (pss_cons (ps_set (i := 9) sc_law.nd rfl (by first | exact Or.inl rfl | exact Or.inr rfl) (pe_op op_cat (pv 3) (pe_lst (pa_cons (pv 6) (pa_cons (pv 8) (pa_cons (pe_makeF M_Turned hr pass0 (pa_cons (pv 6) pa_nil)) (pa_cons (pe_makeF M_Turned hr pass0 (pa_cons (pv 8) pa_nil)) pa_nil)))))))
        (pss_cons (ps_set (i := 4) sc_law.nd rfl (by first | exact Or.inl rfl | exact Or.inr rfl) (pe_op op_cat (pv 2) (pe_lst (pa_cons (pe_op op_catT (pe_tup (pa_cons pe_str pa_nil)) (pe_callTy call_tuple_of (by rfl) T.z_tuple (by decide +kernel) (pa_cons (pv 2) pa_nil))) (pa_cons (pe_op op_catT (pe_tup (pa_cons pe_str pa_nil)) (pe_callTy call_tuple_of (by rfl) T.z_tuple (by decide +kernel) (pa_cons (pv 2) pa_nil))) pa_nil)))))
        (pss_cons (ps_set (i := 4) sc_law.nd rfl (by first | exact Or.inl rfl | exact Or.inr rfl) (pe_op op_cat (pv 4) (pe_lst (pa_cons (pe_tup (pa_cons pe_str (pa_cons (pe_ix ix_list (pv 4) (pe_un un_neg pe_int) (fun _ _ => rfl)) pa_nil))) (pa_cons (pe_tup (pa_cons pe_str (pa_cons (pe_ix ix_list (pv 4) (pe_un un_neg pe_int) (fun _ _ => rfl)) pa_nil))) pa_nil)))))
        (pss_cons (ps_setLc (i := 10) (own := [("_law_one", 11)]) (g := gName 11) (tt := tYes) rfl sc_law.nd rfl rfl (sw_true rfl rfl rfl (by decide +kernel)) (pi_list (pv 4)) (blkOk_by (own := [("_law_one", 11)]) (N := ["_law_script", "_law_names_here", "_law_trees_here", "_law_parts", "_law_told", "_law_handed", "_law_series", "_law_others", "_law_branch", "_law_every", "_law_texts", "_law_one", "_law_copied", "_law_code", "_law_mix", "_law_image", "_law_k", "_law_turn", "_law_found", "_law_part"]) (sc := defScope s_law) (by decide +kernel)) (fun _ _ _ _ _ => pg_name (i := 11) sc_law.nd rfl (Or.inl rfl)) (fun _ _ _ _ _ => pts_nil) (fun _ _ _ _ _ => (pe_methD0 G_text hr pass0 (pe_callF G_part_of hr pass0 (pa_cons (pv 11) pa_nil)))))
        (pss_cons (ps_set (i := 12) sc_law.nd rfl (by first | exact Or.inl rfl | exact Or.inr rfl) (pe_callF G__law_asked hr pass0 (pa_cons (pv 9) (pa_cons pe_dnewK (pa_cons pe_int pa_nil)))))
        (pss_cons (ps_for PassesOwn.never rfl (pi_range1 rfl T.z_range (pa_cons pe_int pa_nil)) (pg_name (i := 13) sc_law.nd rfl (by first | exact Or.inl rfl | exact Or.inr rfl)) (pss_cons (ps_set (i := 14) sc_law.nd rfl (by first | exact Or.inl rfl | exact Or.inr rfl) (pe_callF G__law_mixed hr pass0 (pa_cons (pe_callF G__law_cell_at hr pass0 (pa_cons (pv 0) (pa_cons pe_int pa_nil))) (pa_cons (pv 13) pa_nil))))
          (pss_cons (ps_set (i := 15) sc_law.nd rfl (by first | exact Or.inl rfl | exact Or.inr rfl) pe_dnewK)
          (pss_cons (ps_for PassesOwn.never rfl (pi_range1 rfl T.z_range (pa_cons pe_int pa_nil)) (pg_name (i := 16) sc_law.nd rfl (by first | exact Or.inl rfl | exact Or.inr rfl)) (pss_one (ps_dput hu (pv 15) (pe_ix ix_list (pv 1) (pv 16) (fun _ _ => rfl)) (pe_cmpR op_eq (pe_op op_mod (pe_op op_fdiv (pv 14) (pe_ix ix_list (pe_lst (pa_cons pe_int (pa_cons pe_int (pa_cons pe_int (pa_cons pe_int (pa_cons pe_int pa_nil)))))) (pv 16) (fun _ _ => rfl))) pe_int) pe_int (nomark _)) rfl)))
          (pss_cons (ps_for PassesOwn.never rfl (pi_range1 rfl T.z_range (pa_cons pe_int pa_nil)) (pg_name (i := 17) sc_law.nd rfl (by first | exact Or.inl rfl | exact Or.inr rfl)) (pss_cons (ps_set (i := 18) sc_law.nd rfl (by first | exact Or.inl rfl | exact Or.inr rfl) (pe_callF G__law_asked hr pass0 (pa_cons (pv 9) (pa_cons (pv 15) (pa_cons (pe_op op_add (pv 17) (pe_op op_mod (pe_op op_fdiv (pv 14) pe_int) pe_int)) pa_nil)))))
            (pss_one (ps_if (PW.pt (pw_or (PW.pt (pw_and (pt_cmpR op_in_seq (pe_op op_add (pv 17) (pe_op op_mod (pe_op op_fdiv (pv 14) pe_int) pe_int)) (pe_tup (pa_cons pe_int (pa_cons pe_int pa_nil))) rfl) (pw_and1 (pt_cmpR (op_neD hr.units) (pv 18) (pv 4) (nomark _))))) (pw_or1 (PW.pt (pw_and (pt_cmpR op_in_seq (pe_op op_add (pv 17) (pe_op op_mod (pe_op op_fdiv (pv 14) pe_int) pe_int)) (pe_tup (pa_cons pe_int (pa_cons pe_int pa_nil))) rfl) (pw_and1 (pt_cmpR (op_neD hr.units) (pv 18) (pv 10) (nomark _)))))))) (pss_one (ps_ret pe_bl)) pss_nil))))
          (pss_cons (ps_setLc (i := 18) (own := [("_law_part", 19)]) (g := gName 19) (tt := tYes) rfl sc_law.nd rfl rfl (sw_true rfl rfl rfl (by decide +kernel)) (pi_list (pv 3)) (blkOk_by (own := [("_law_part", 19)]) (N := ["_law_script", "_law_names_here", "_law_trees_here", "_law_parts", "_law_told", "_law_handed", "_law_series", "_law_others", "_law_branch", "_law_every", "_law_texts", "_law_one", "_law_copied", "_law_code", "_law_mix", "_law_image", "_law_k", "_law_turn", "_law_found", "_law_part"]) (sc := defScope s_law) (by decide +kernel)) (fun _ _ _ _ _ => pg_name (i := 19) sc_law.nd rfl (Or.inl rfl)) (fun _ _ _ _ _ => pts_nil) (fun _ _ _ _ _ => (pe_methD G_holds hr pass0 (pv 19) (pa_cons (pv 15) pa_nil))))
          (pss_cons (ps_if (PW.pt (pw_or (pt_cmpR op_ne (pe_methD G_holds hr pass0 (pv 6) (pa_cons (pv 15) pa_nil)) (pe_cmpR op_notIn_seq pe_bl (pv 18) rfl) (nomark _)) (pw_or1 (pt_cmpR op_ne (pe_methD G_holds hr pass0 (pv 8) (pa_cons (pv 15) pa_nil)) (pe_cmpR op_in_seq pe_bl (pv 18) rfl) (nomark _))))) (pss_one (ps_ret pe_bl)) pss_nil)
          (pss_one (ps_if (PW.pt (pw_or (pt_cmpR op_ne (pe_methD G_holds hr pass0 (pe_ix ix_list (pv 9) (pe_un un_neg pe_int) (fun _ _ => rfl)) (pa_cons (pv 15) pa_nil)) (pe_cmpR op_in_seq pe_bl (pv 18) rfl) (nomark _)) (pw_or1 (pt_cmpR op_ne (pe_methD G_holds hr pass0 (pe_ix ix_list (pv 9) (pe_un un_neg pe_int) (fun _ _ => rfl)) (pa_cons (pv 15) pa_nil)) (pe_cmpR op_notIn_seq pe_bl (pv 18) rfl) (nomark _))))) (pss_one (ps_ret pe_bl)) pss_nil)))))))))
        (pss_cons (ps_if (PW.pt (pw_or (pt_not (pt_val (pe_callB call_isTup (by rfl) T.z_isinstance (by decide +kernel) (pa_cons (pe_fld (pv 6) rfl) (pa_cons (pe_bltn (v := .ty "tuple") (by rfl) T.z_tuple (by decide +kernel) rfl) pa_nil))))) (pw_or1 (pt_not (pt_val (pe_callB call_isTup (by rfl) T.z_isinstance (by decide +kernel) (pa_cons (pe_fld (pv 8) rfl) (pa_cons (pe_bltn (v := .ty "tuple") (by rfl) T.z_tuple (by decide +kernel) rfl) pa_nil)))))))) (pss_one (ps_ret pe_bl)) pss_nil)
        (pss_one (ps_ret (pe_and (pe_cmpR (op_eqD hr.units) (pv 12) (pv 4) (nomark _)) (pe_and (pe_cmpR (op_eqD hr.units) (pe_methD0 G_told hr pass0 (pv 6)) (pe_ix ix_list (pv 4) (pe_un un_neg pe_int) (fun _ _ => rfl)) (nomark _)) (pe_one (pe_cmpR op_eq (pe_callB call_len_seq (by rfl) T.z_len PySem.boot_len (pa_cons (pe_fld (pv 6) rfl) pa_nil)) (pe_callB call_len_seq (by rfl) T.z_len PySem.boot_len (pa_cons (pv 2) pa_nil)) (nomark _))))))))))))))))))))))))), ?_⟩
    walk_at "rd"
    refine ⟨a, script, 0, rfl, hS, by decide, _, rfl, fun H1 pn ns s1 fn hN => ?_⟩
    refine ⟨a, pn, script, ns, rfl, s1.seq hS, hN, fun H2 pt ts cs s2 npt hpt hts hsm hl2 hl6 hsz => ?_⟩
    walk_at "rd"
    obtain ⟨hdp, hoks⟩ := small_depths hsm
    refine ⟨_, rfl, pt, rfl, ⟨_, SqL.of hpt⟩, fun D1 nD1 => lc_list (K := K) (a := pt) (xs := ts) (fun i H' => Same H2 H' ∧ ∃ vs, H' D1 = some (.lst vs) ∧ IsPs cl H' vs (cs.take i))
      ⟨Same.new nD1, [], upd_same, by simpa using .nil⟩ (fun i H' _ z => SqL.of (z.1 _ _ hpt)) ?_ ?_⟩
    · rintro i y H9 hy ⟨w1, vs, w2, w3⟩
      obtain ⟨c', hc', p'⟩ := (hts.mono (T := cl.has) (Same.imm w1)).at hy
      have hm := List.mem_of_getElem? hc'
      obtain ⟨g1, g2⟩ := hsm c' hm
      have h1 := Cond.depth_mem hm
      have hl := w3.length
      rw [List.length_take] at hl
      refine ⟨rfl, _, rfl, y, c', rfl, p', g1, by omega, by omega, fun H10 x s10 px => ⟨vs, s10 _ _ w2, by rw [sizeLine_eq]; omega, Same.mut (w1.trans s10) nD1, vs ++ [.ref x], upd_same, ?_⟩⟩
      have im : Imm cl.has H10 (upd H10 D1 (.lst (vs ++ [.ref x]))) := Imm.mut (s10 _ _ w2) id
      rw [List.take_succ, hc']
      exact ((w3.mono (Same.imm s10)).mono im).snoc (px.mono im)
    rintro H3 ⟨y1', ps, hps, qps⟩
    rw [hts.length, List.take_of_length_le (Nat.le_refl _)] at qps
    have pl := qps.length
    refine ⟨D1, rfl, ps, .inl (SqL.of hps), fun l1 nl1 => ⟨_, rfl, ?_⟩⟩
    intro z1 z2 z3 z4 z5
    have t1 := Same.new (o := .lst ps) nl1
    refine ⟨_, z1, z2, l1, ps, cs, rfl, upd_same, same_make z3 z4, z3, upd_same, qps.mono (Same.imm t1), hl2, by omega, by omega, fun H4 s4 p1 => ⟨rfl, ?_⟩⟩
    have hl1 := s4 _ _ (upd_same (H := H3) (a := l1) (o := .lst ps))
    have t4 := t1.trans s4
    refine ⟨D1, rfl, ps, .inl (SqL.of (t4 _ _ hps)), fun l2 nl2 => ⟨_, rfl, ?_⟩⟩
    intro y1 y2 y3 y4 y5
    have t5 := t4.trans (Same.new (o := .lst ps) nl2)
    refine ⟨_, y1, y2, l2, ps, cs, rfl, upd_same, same_make y3 y4, y3, upd_same, qps.mono (Same.imm t5), hl2, by omega, by omega, fun H5 s5 p2 => ⟨rfl, ?_⟩⟩
    have hl2' := s5 _ _ (upd_same (H := H4) (a := l2) (o := .lst ps))
    have t55 := t5.trans s5
    have p1' := p1.mono (Same.imm ((Same.new (o := .lst ps) nl2).trans s5))
    have hl1' := s5 _ _ (Same.new (o := .lst ps) nl2 _ _ hl1)
    have hps5 := t55 _ _ hps
    have qps5 := qps.mono (Same.imm t55)
    have at1 : ∀ i, i < cs.length → ∃ x c, ps[i]? = some x ∧ c ∈ cs ∧ IsP cl H5 x c := by
      intro i hi
      have e1 : ps[i]? = some (ps[i]'(by omega)) := List.getElem?_eq_getElem _
      obtain ⟨c1, h1, h2⟩ := qps5.at e1
      exact ⟨_, c1, e1, List.mem_of_getElem? h1, h2⟩
    obtain ⟨xe, ce, he1, he2, he3⟩ := at1 (cs.length - 1) (by omega)
    obtain ⟨xb, cb, hb1, hb2, hb3⟩ := at1 0 (by omega)
    have axe : atI ps (-1) = some xe := atI_endS (by rw [pl]; exact he1)
    have axb : atI ps 0 = some xb := atI_int (by decide) (by simpa using hb1)
    have hse := (hsm ce he2).2
    have hsb := (hsm cb hb2).2
    have hde := Cond.depth_mem he2
    have hdb := Cond.depth_mem hb2
    refine ⟨_, rfl, .inl ⟨rfl, _, SqL.of hl1'⟩, _, rfl, 1, rfl, D1, ps, -1, xe, rfl, rfl, SqL.of hps5, axe, ?_⟩
    intro u1 u2 u3 u4 u5
    refine ⟨_, u1, u2, xe, ce, rfl, upd_same, same_make u3 u4, u3, he3, by omega, by omega, fun H6 s6 p3 => ⟨rfl, ?_⟩⟩
    refine ⟨l1, ps, .ref u1, rfl, rfl, s6 _ _ hl1', by rw [sizeLine_eq]; omega, ?_⟩
    refine ⟨_, rfl, l1, ps ++ [.ref u1], 0, 0, rfl, rfl, upd_same, ixN_0 (by simp), ?_⟩
    have b7 : But l1 H5 (upd (upd H6 l1 (.lst (ps ++ [.ref u1]))) l1 (.lst ((ps ++ [V.ref u1]).set 0 (V.ref y1)))) := ((Same.but s6).trans But.upd).trans But.upd
    generalize upd (upd H6 l1 (.lst (ps ++ [.ref u1]))) l1 (.lst ((ps ++ [V.ref u1]).set 0 (V.ref y1))) = H7 at b7
    have im7 : Imm cl.has H5 H7 := b7.imm hl1' id
    -- what H3 knows is not l1, nor l2
    have ne1 : ∀ b o, H3 b = some o → b ≠ l1 := fun b o e => ne_of_none e nl1
    have ne2 : ∀ b o, H3 b = some o → b ≠ l2 := fun b o e => ne_of_none (t4 _ _ e) nl2
    have nel : l2 ≠ l1 := by
      rintro rfl
      rw [hl1] at nl2
      cases nl2
    have k7 : ∀ b o, H3 b = some o → H7 b = some o := fun b o e => b7 _ _ (t55 _ _ e) (ne1 _ _ e)
    have hl2'' := b7 _ _ hl2' nel
    refine ⟨_, rfl, .inl ⟨rfl, _, SqL.of hl2''⟩, _, rfl, D1, ps, 0, xb, rfl, rfl, SqL.of (k7 _ _ hps), axb, ?_⟩
    intro v1 v2 v3 v4 v5
    refine ⟨_, v1, v2, xb, cb, rfl, upd_same, same_make v3 v4, v3, hb3.mono im7, by omega, by omega, fun H8 s8 p4 => ⟨rfl, ?_⟩⟩
    refine ⟨l2, ps, .ref v1, rfl, rfl, s8 _ _ hl2'', by rw [sizeLine_eq]; omega, ?_⟩
    refine ⟨_, rfl, _, rfl, l2, ps ++ [.ref v1], 0, 0, rfl, rfl, upd_same, ixN_0 (by simp), ?_⟩
    have b9 : But l2 H7 (upd (upd H8 l2 (.lst (ps ++ [.ref v1]))) l2 (.lst ((ps ++ [V.ref v1]).set 0 (V.ref z1)))) := ((Same.but s8).trans But.upd).trans But.upd
    generalize upd (upd H8 l2 (.lst (ps ++ [.ref v1]))) l2 (.lst ((ps ++ [V.ref v1]).set 0 (V.ref z1))) = H9 at b9
    have im9 : Imm cl.has H5 H9 := im7.trans (b9.imm hl2'' id)
    have k9 : ∀ b o, H3 b = some o → H9 b = some o := fun b o e => b9 _ _ (k7 _ _ e) (ne2 _ _ e)
    have hps9 := k9 _ _ hps
    have hpt9 := k9 _ _ (y1' _ _ hpt)
    have qps9 := qps5.mono im9
    have ps1 := p1'.mono im9
    have ps2 := p2.mono im9
    clear b7 b9 k7 im7
    walk_at "rd"
    have tne : ts ≠ [] := by
      intro e
      have := hts.length
      rw [e] at this
      simp at this
      omega
    have htl := hts.length
    have hts9 : IsTs H9 ts cs := (hts.mono (T := cl.has) (Same.imm (y1'.trans t55))).mono im9
    refine ⟨_, rfl, ?_⟩
    intro c1 c2 c3 c4 c5
    refine ⟨_, c1, c2, _, .grp true cs, rfl, upd_same, same_make c3 c4, c3, ps1, by rw [Cond.size]; omega, by rw [Cond.depth]; omega, fun H10 s10 p5 => ⟨rfl, ?_⟩⟩
    refine ⟨_, rfl, ?_⟩
    intro d1 d2 d3 d4 d5
    refine ⟨_, d1, d2, _, .grp false cs, rfl, upd_same, same_make d3 d4, d3, ps2.mono (Same.imm s10), by rw [Cond.size]; omega, by rw [Cond.depth]; omega, fun H11 s11 p6 => ⟨rfl, line_ge (by simp), fun e1 ne1 => ?_⟩⟩
    have w11 := (s10.trans s11).trans (Same.new (o := .lst [.ref z1, .ref y1, .ref c1, .ref d1]) ne1)
    refine ⟨D1, e1, ps, _, rfl, rfl, w11 _ _ hps9, upd_same, line_ge (by simp; omega), fun e2 ne2 => ?_⟩
    have w12 := w11.trans (Same.new (o := .lst (ps ++ [.ref z1, .ref y1, .ref c1, .ref d1])) ne2)
    have he2 := upd_same (H := upd H11 e1 (.lst [.ref z1, .ref y1, .ref c1, .ref d1])) (a := e2) (o := .lst (ps ++ [.ref z1, .ref y1, .ref c1, .ref d1]))
    have p5' := p5.mono (Same.imm ((s11.trans (Same.new (o := .lst [.ref z1, .ref y1, .ref c1, .ref d1]) ne1)).trans (Same.new (o := .lst (ps ++ [.ref z1, .ref y1, .ref c1, .ref d1])) ne2)))
    have p6' := p6.mono (Same.imm ((Same.new (o := .lst [.ref z1, .ref y1, .ref c1, .ref d1]) ne1).trans (Same.new (o := .lst (ps ++ [.ref z1, .ref y1, .ref c1, .ref d1])) ne2)))
    generalize upd (upd H11 e1 _) e2 _ = H12 at w12 he2 p5' p6'
    refine ⟨line_ge (by simp), fun g1 ng1 => ⟨ts, .inl ⟨SqL.of ((w12.trans (Same.new ng1)) _ _ hpt9), fun g2 ng2 => ?_⟩⟩⟩
    have x1 := Same.new (o := .tup [.str "and"]) ng1
    have x2 := x1.trans (Same.new (o := .tup ts) ng2)
    refine ⟨g1, g2, [.str "and"], ts, rfl, rfl, SqT.of (Same.new ng2 _ _ upd_same), SqT.of upd_same, by simp, line_ge (by simp; omega), fun e => absurd e tne, fun _ g3 ng3 => ⟨line_ge (by simp), fun g4 ng4 => ?_⟩⟩
    have x3 := x2.trans (Same.new (o := .tup ([.str "and"] ++ ts)) ng3)
    have x4 := x3.trans (Same.new (o := .tup [.str "or"]) ng4)
    have hg3 := Same.new (o := .tup [.str "or"]) ng4 _ _ (upd_same (H := upd (upd H12 g1 (.tup [.str "and"])) g2 (.tup ts)) (a := g3) (o := .tup ([.str "and"] ++ ts)))
    have hg4 := upd_same (H := upd (upd (upd H12 g1 (.tup [.str "and"])) g2 (.tup ts)) g3 (.tup ([.str "and"] ++ ts))) (a := g4) (o := .tup [.str "or"])
    generalize upd (upd (upd (upd H12 g1 _) g2 _) g3 _) g4 _ = H13 at x4 hg3 hg4
    refine ⟨ts, .inl ⟨SqL.of ((w12.trans x4) _ _ hpt9), fun g5 ng5 => ?_⟩⟩
    have x5 := x4.trans (Same.new (o := .tup ts) ng5)
    refine ⟨g4, g5, [.str "or"], ts, rfl, rfl, SqT.of (Same.new ng5 _ _ hg4), SqT.of upd_same, by simp, line_ge (by simp; omega), fun e => absurd e tne, fun _ g6 ng6 => ⟨line_ge (by simp), fun g7 ng7 => ?_⟩⟩
    have x6 := x5.trans (Same.new (o := .tup ([.str "or"] ++ ts)) ng6)
    have x7 := x6.trans (Same.new (o := .lst [.ref g3, .ref g6]) ng7)
    refine ⟨pt, g7, ts, _, rfl, rfl, (w12.trans x7) _ _ hpt9, upd_same, line_ge (by simp; omega), fun g8 ng8 => ?_⟩
    have x8 := x7.trans (Same.new (o := .lst (ts ++ [.ref g3, .ref g6])) ng8)
    have hg6 := Same.new (o := .lst (ts ++ [.ref g3, .ref g6])) ng8 _ _ (Same.new (o := .lst [.ref g3, .ref g6]) ng7 _ _ (upd_same (H := upd H13 g5 (.tup ts)) (a := g6) (o := .tup ([.str "or"] ++ ts))))
    have hg8 := upd_same (H := upd (upd (upd H13 g5 (.tup ts)) g6 (.tup ([.str "or"] ++ ts))) g7 (.lst [.ref g3, .ref g6])) (a := g8) (o := .lst (ts ++ [.ref g3, .ref g6]))
    have hg3' := (((Same.new (o := .tup ts) ng5).trans (Same.new (o := .tup ([.str "or"] ++ ts)) ng6)).trans (Same.new (o := .lst [.ref g3, .ref g6]) ng7)).trans (Same.new (o := .lst (ts ++ [.ref g3, .ref g6])) ng8) _ _ hg3
    generalize upd (upd (upd (upd H13 g5 _) g6 _) g7 _) g8 _ = H14 at x8 hg6 hg8 hg3'
    refine ⟨2, rfl, g8, _, -2, .ref g3, rfl, rfl, SqL.of hg8, atI_m2 _ _ _, line_ge (by simp), fun g9 ng9 => ?_⟩
    have o9 := Same.new (o := .tup [.str "not", .ref g3]) ng9
    refine ⟨1, rfl, g8, _, -1, .ref g6, rfl, rfl, SqL.of (o9 _ _ hg8), atI_m1 _ _ _, line_ge (by simp), fun g10 ng10 => ⟨line_ge (by simp), fun g11 ng11 => ?_⟩⟩
    have o10 := o9.trans (Same.new (o := .tup [.str "not", .ref g6]) ng10)
    have o11 := o10.trans (Same.new (o := .lst [.ref g9, .ref g10]) ng11)
    refine ⟨g8, g11, _, _, rfl, rfl, o11 _ _ hg8, upd_same, line_ge (by simp; omega), fun g12 ng12 => ?_⟩
    have o12 := o11.trans (Same.new (o := .lst (ts ++ [.ref g3, .ref g6] ++ [.ref g9, .ref g10])) ng12)
    have hg9 := (((Same.new (o := .tup [.str "not", .ref g6]) ng10).trans (Same.new (o := .lst [.ref g9, .ref g10]) ng11)).trans (Same.new (o := .lst (ts ++ [.ref g3, .ref g6] ++ [.ref g9, .ref g10])) ng12)) _ _ (upd_same (H := H14) (a := g9) (o := .tup [.str "not", .ref g3]))
    have hg10 := ((Same.new (o := .lst [.ref g9, .ref g10]) ng11).trans (Same.new (o := .lst (ts ++ [.ref g3, .ref g6] ++ [.ref g9, .ref g10])) ng12)) _ _ (upd_same (H := upd H14 g9 (.tup [.str "not", .ref g3])) (a := g10) (o := .tup [.str "not", .ref g6]))
    have hg12 := upd_same (H := upd (upd (upd H14 g9 (.tup [.str "not", .ref g3])) g10 (.tup [.str "not", .ref g6])) g11 (.lst [.ref g9, .ref g10])) (a := g12) (o := .lst (ts ++ [.ref g3, .ref g6] ++ [.ref g9, .ref g10]))
    generalize upd (upd (upd (upd H14 g9 _) g10 _) g11 _) g12 _ = H15 at o12 hg9 hg10 hg12
    have y15 := (w12.trans x8).trans o12
    have hts15 := hts9.mono (T := cl.has) (Same.imm y15)
    have tg3 : IsT H15 (.ref g3) (.grp true cs) := .grp (o12 _ _ hg3') hts15
    have tg6 : IsT H15 (.ref g6) (.grp false cs) := .grp (o12 _ _ hg6) hts15
    have every : IsTs H15 (ts ++ [.ref g3, .ref g6] ++ [.ref g9, .ref g10]) (cs ++ [.grp true cs, .grp false cs] ++ [Cond.not (.grp true cs), Cond.not (.grp false cs)]) := (hts15.app (.cons tg3 (.cons tg6 .nil))).app (.cons (.not hg9 tg3) (.cons (.not hg10 tg6) .nil))
    have o15 := x8.trans o12
    have objs : IsPs cl H15 (ps ++ [.ref z1, .ref y1, .ref c1, .ref d1]) (cs ++ [.grp true cs, .grp false cs] ++ [Cond.not (.grp true cs), Cond.not (.grp false cs)]) := by
      rw [List.append_assoc]
      exact (qps9.mono (Same.imm y15)).app (.cons (ps1.mono (Same.imm y15)) (.cons (ps2.mono (Same.imm y15)) (.cons (p5'.mono (Same.imm o15)) (.cons (p6'.mono (Same.imm o15)) .nil))))
    have hz3 : ∀ sd : Bool, (Cond.grp sd cs).ok = true ∧ (Cond.grp sd cs).size ≤ 51 ∧ (Cond.grp sd cs).depth ≤ 13 := fun sd =>
      ⟨by rw [Cond.ok, hoks, decide_eq_true hl2]; rfl, by rw [Cond.size]; omega, by rw [Cond.depth]; omega⟩
    have ok4 : ∀ c ∈ cs ++ [Cond.grp true cs, .grp false cs] ++ [Cond.not (.grp true cs), Cond.not (.grp false cs)], c.ok = true ∧ c.depth ≤ 20 ∧ c.size ≤ 60 := by
      intro c hc
      simp only [List.mem_append, List.mem_cons, List.not_mem_nil, or_false] at hc
      rcases hc with (hc | rfl | rfl) | rfl | rfl
      · obtain ⟨g1, g2⟩ := hsm c hc
        have := Cond.depth_mem hc
        exact ⟨g1, by omega, by omega⟩
      · obtain ⟨g1, g2, g3⟩ := hz3 true
        exact ⟨g1, by omega, by omega⟩
      · obtain ⟨g1, g2, g3⟩ := hz3 false
        exact ⟨g1, by omega, by omega⟩
      · obtain ⟨g1, g2, g3⟩ := hz3 true
        exact ⟨g1, by rw [Cond.depth]; omega, by rw [Cond.size]; omega⟩
      · obtain ⟨g1, g2, g3⟩ := hz3 false
        exact ⟨g1, by rw [Cond.depth]; omega, by rw [Cond.size]; omega⟩
    have len4 : (cs ++ [Cond.grp true cs, .grp false cs] ++ [Cond.not (.grp true cs), Cond.not (.grp false cs)]).length ≤ 10 := by simp; omega
    generalize ec4 : cs ++ [Cond.grp true cs, .grp false cs] ++ [Cond.not (.grp true cs), Cond.not (.grp false cs)] = c4 at every objs ok4 len4
    have evl := every.length
    have he2' := o15 _ _ he2
    refine ⟨_, rfl, g12, rfl, ⟨_, SqL.of hg12⟩, fun D3 nD3 => lc_list (K := K) (a := g12) (xs := ts ++ [.ref g3, .ref g6] ++ [.ref g9, .ref g10]) (fun i H' => Same H15 H' ∧ H' D3 = some (.lst ((c4.map fun c => V.str c.text).take i)))
      ⟨Same.new nD3, upd_same⟩ (fun i H' _ z => SqL.of (z.1 _ _ hg12)) ?_ ?_⟩
    · rintro i y H16 hy ⟨r1, r2⟩
      obtain ⟨c', hc', p'⟩ := (every.mono (T := cl.has) (Same.imm r1)).at hy
      obtain ⟨g1, g2, g3⟩ := ok4 c' (List.mem_of_getElem? hc')
      refine ⟨rfl, _, rfl, y, c', rfl, p', g1, g3, g2, fun H17 x s17 px => ?_⟩
      obtain ⟨a17, dx17, fs17, e17, ha17⟩ := px.ins
      cases e17
      refine ⟨x, _, dx17, fs17, rfl, ha17, c'.has_cls cl, look_of (by decide +kernel) ha17 px, x, dx17, fs17, c', rfl, ha17, px, g1, g2, by omega, fun H18 s18 => ?_⟩
      exact lc_push ((r1.trans s17).trans s18) nD3 (s18 _ _ (s17 _ _ r2)) (by rw [List.getElem?_map, hc']; rfl) (by rw [List.length_map]; omega)
    rintro H16 ⟨r1, r2⟩
    rw [evl, List.take_of_length_le (by simp)] at r2
    refine fun d0 nd0 => ?_
    have s16 := r1.trans (Same.new (o := .dK []) nd0)
    refine ⟨e2, d0, 0, _, c4, [], rfl, s16 _ _ he2', objs.mono (Same.imm s16), upd_same, ⟨by simp, by simp⟩, ok4, by omega, fun H17 cp us s17 hcp f1 f2 f3 => ?_⟩
    have cpt := f1 (by decide)
    have s15 : Same H15 H17 := s16.trans s17
    have s317 : Same H3 H17 := (show Same H3 H9 from k9).trans (y15.trans s15)
    have hS17 := (((s1.trans s2).trans y1').trans s317).seq hS
    have hn17 := s317 _ _ (y1' _ _ (s2 _ _ hN.at_))
    have hpt17 := s317 _ _ (y1' _ _ hpt)
    have hps17 := s317 _ _ hps
    have hg17 := s15 _ _ hg12
    have he17 := s15 _ _ he2'
    have hD17 : H17 D3 = some (.lst (c4.map fun c => V.str c.text)) := s17 _ _ (Same.new nd0 _ _ r2)
    have objs17 := objs.mono (Same.imm s15)
    have every17 := every.mono (T := cl.has) (Same.imm s15)
    have parts17 : IsPs cl H17 ps cs := (qps9.mono (Same.imm y15)).mono (Same.imm s15)
    have pz17 : IsP cl H17 (.ref z1) (.grp true cs) := (ps1.mono (Same.imm y15)).mono (Same.imm s15)
    have py17 : IsP cl H17 (.ref y1) (.grp false cs) := (ps2.mono (Same.imm y15)).mono (Same.imm s15)
    have pc17 : IsP cl H17 (.ref c1) (.not (.grp true cs)) := (p5'.mono (Same.imm o15)).mono (Same.imm s15)
    have pd17 : IsP cl H17 (.ref d1) (.not (.grp false cs)) := (p6'.mono (Same.imm o15)).mono (Same.imm s15)
    have okc4 : ∀ l : List Cond, (∀ c ∈ l, c.ok = true ∧ c.depth ≤ 20 ∧ c.size ≤ 60) → Cond.oks l = true ∧ Cond.depths l ≤ 20 := by
      intro l
      induction l with
      | nil => intro _; exact ⟨rfl, Nat.zero_le _⟩
      | cons x r ih =>
        intro h
        obtain ⟨i1, i2⟩ := ih fun y hy => h y (List.mem_cons_of_mem _ hy)
        obtain ⟨j1, j2, j3⟩ := h x List.mem_cons_self
        exact ⟨by rw [Cond.oks, j1, i1]; rfl, by rw [Cond.depths]; omega⟩
    obtain ⟨ok4s, dp4⟩ := okc4 c4 ok4
    have sh4 := tolds_shaped ok4s (by omega)
    have ev4 := tolds_eqv ok4s
    obtain ⟨l4, e4⟩ : ∃ l4, l4 = c4.map Cond.text := ⟨_, rfl⟩
    have eL : (c4.map fun c => V.str c.text) = l4.map V.str := by rw [e4, List.map_map]; rfl
    have lok : ∀ x ∈ l4, PyData.strOk x = true := by
      rw [e4]
      intro x hx
      obtain ⟨c, hc, rfl⟩ := List.mem_map.mp hx
      exact text_strOk (ok4 c hc).1
    have sl4 := strs_shaped' lok
    have el4 := strs_eqv' lok
    refine ⟨_, rfl, by decide, by decide, for_range (lo := 0) (n := 6) (fun j σ H' => ∃ v13 v14 v15 v16 v17 v18 : Option V, σ = [some (.ref a), some (.ref pn), some (.ref pt), some (.ref D1), some (.ref g12), some (.ref l1), some (.ref z1), some (.ref l2), some (.ref y1), some (.ref e2), some (.ref D3), none, some (.ref cp), v13, v14, v15, v16, v17, v18, none] ∧ Same H17 H')
      ⟨none, none, none, none, none, none, rfl, Same.refl _⟩ ?_ ?_⟩
    · rintro j σ H18 hj ⟨v13, v14, v15, v16, v17, v18, rfl, s18⟩
      walk_at "rd"
      refine ⟨a, script, 2, rfl, s18.seq hS17, by decide, _, _, rfl, ?_⟩
      have hm := mixed_nn (cellAt script 2) (0 + (j : Int))
      generalize mixed (cellAt script 2) (0 + (j : Int)) = c at hm
      refine fun p np => ?_
      refine ⟨_, rfl, by decide, by decide, for_range (lo := 0) (n := 5) (fun i σ H' => ∃ (w16 : Option V) (kvs : List (Key × V)), σ = [some (.ref a), some (.ref pn), some (.ref pt), some (.ref D1), some (.ref g12), some (.ref l1), some (.ref z1), some (.ref l2), some (.ref y1), some (.ref e2), some (.ref D3), none, some (.ref cp), some (.int (0 + (j : Int))), some (.int c), some (.ref p), w16, v17, v18, none] ∧ Same H18 H' ∧ H' p = some (.dK kvs) ∧ GoodD kvs ∧ kvs.length ≤ i)
        ⟨v16, [], rfl, Same.new np, upd_same, ⟨by simp, by simp⟩, by simp⟩ ?_ ?_⟩
      · rintro i σ H19 hi ⟨w16, kvs, rfl, s19, hp, hg, hl⟩
        obtain ⟨y, hy, hya⟩ := atI_ex (xs := [V.int 1, .int 2, .int 4, .int 8, .int 16]) (i := 0 + (i : Int)) (by omega) (by simp; omega)
        obtain ⟨m, rfl, m1, m2⟩ : ∃ m : Int, y = .int m ∧ 0 < m ∧ m < 1073741824 := by
          simp only [List.mem_cons, List.not_mem_nil, or_false] at hy
          rcases hy with rfl | rfl | rfl | rfl | rfl
          · exact ⟨1, rfl, by decide, by decide⟩
          · exact ⟨2, rfl, by decide, by decide⟩
          · exact ⟨4, rfl, by decide, by decide⟩
          · exact ⟨8, rfl, by decide, by decide⟩
          · exact ⟨16, rfl, by decide, by decide⟩
        obtain ⟨y2, hy2, hna⟩ := atI_ex (xs := ns.map V.str) (i := 0 + (i : Int)) (by omega) (by rw [List.length_map, hN.five]; omega)
        obtain ⟨n, hn, rfl⟩ := List.mem_map.mp hy2
        have hn19 := (s18.trans s19) _ _ hn17
        walk_at "rd"
        simp only [sDPut]
        walk_at "rd"
        refine ⟨line_ge (by simp), fun z2 nz2 => ⟨z2, _, _, .int m, rfl, rfl, SqL.of upd_same, hya, _, rfl, ⟨m1, m2⟩, pn, _, _, .str n, rfl, rfl, SqL.of (Same.new nz2 _ _ hn19), hna, _, DPut.k (k := Sum.inr n) (Same.new nz2 _ _ hp) (small1000 (by omega)), ?_⟩⟩
        exact ⟨Same.mut (s19.trans (Same.new nz2)) np, _, upd_same, hg.put (by omega) _ _, le_put kvs n _ hl⟩
      rintro σ H19 ⟨w16, kvs, rfl, s19, hp, hg, hl⟩
      have s1719 := s18.trans s19
      have h30 := Int.emod_nonneg (c / 32) (show (3 : Int) ≠ 0 by decide)
      have h31 := Int.emod_lt_of_pos (c / 32) (show (0 : Int) < 3 by decide)
      refine ⟨_, rfl, by decide, by decide, for_range (lo := 0) (n := 3) (fun i σ H' => ∃ (u17 u18 : Option V), σ = [some (.ref a), some (.ref pn), some (.ref pt), some (.ref D1), some (.ref g12), some (.ref l1), some (.ref z1), some (.ref l2), some (.ref y1), some (.ref e2), some (.ref D3), none, some (.ref cp), some (.int (0 + (j : Int))), some (.int c), some (.ref p), w16, u17, u18, none] ∧ Same H19 H')
        ⟨v17, v18, rfl, Same.refl _⟩ ?_ ?_⟩
      · rintro i σ H20 hi ⟨u17, u18, rfl, s20⟩
        have s1720 := s1719.trans s20
        walk_at "rd"
        generalize hI : 0 + (i : Int) + c / 32 % 3 = iv
        have hiv : iv = 0 ∨ iv = 1 ∨ iv = 2 ∨ iv = 3 ∨ iv = 4 := by omega
        refine ⟨e2, p, iv, _, c4, kvs, rfl, s1720 _ _ he17, objs17.mono (Same.imm s1720), s20 _ _ hp, hg, ok4, by omega, fun H21 q us' s21 hq t1 t2 t3 => ⟨line_ge (by simp), fun p1 np1 => ⟨p1, _, rfl, .inr (SqT.of upd_same), rfl, rfl, ?_⟩⟩⟩
        have w21 := s21.trans (Same.new (o := .tup [.int 0, .int 3]) np1)
        have w1721 := s1720.trans w21
        have hq21 := Same.new (o := .tup [.int 0, .int 3]) np1 _ _ hq
        have e03 : (V.bl (if false = true then !inV (.int iv) [.int 0, .int 3] else inV (.int iv) [.int 0, .int 3])) = .bl (decide (iv % 3 = 0)) := by
          rcases hiv with rfl | rfl | rfl | rfl | rfl <;> decide +kernel
        have e14 : (V.bl (if false = true then !inV (.int iv) [.int 1, .int 4] else inV (.int iv) [.int 1, .int 4])) = .bl (decide (iv % 3 = 1)) := by
          rcases hiv with rfl | rfl | rfl | rfl | rfl <;> decide +kernel
        rw [e03]
        by_cases h0 : iv % 3 = 0
        · rw [decide_eq_true h0]
          refine ⟨true, rfl, iteT ⟨.list (Cond.tolds c4), .list (Cond.tolds c4), .lst (SqL.of hq21) (((t1 h0).mono (T := cl.has) (Same.imm (Same.new (o := .tup [.int 0, .int 3]) np1))).dp), .lst (SqL.of (w1721 _ _ hg17)) ((every17.mono (T := cl.has) (Same.imm w1721)).dp), sh4, sh4, ?_⟩⟩
          rw [ev4]
          refine ⟨false, rfl, iteF ⟨line_ge (by simp), fun p2 np2 => ⟨p2, _, rfl, .inr (SqT.of upd_same), rfl, rfl, ?_⟩⟩⟩
          rw [e14, decide_eq_false (by omega : ¬ iv % 3 = 1)]
          exact ⟨false, rfl, iteF ⟨_, _, ⟨rfl, rfl⟩, (s20.trans w21).trans (Same.new np2)⟩⟩
        · rw [decide_eq_false h0]
          refine ⟨false, rfl, iteF ⟨line_ge (by simp), fun p2 np2 => ⟨p2, _, rfl, .inr (SqT.of upd_same), rfl, rfl, ?_⟩⟩⟩
          have w22 := w21.trans (Same.new (o := .tup [.int 1, .int 4]) np2)
          have w1722 := s1720.trans w22
          rw [e14]
          by_cases h1 : iv % 3 = 1
          · rw [decide_eq_true h1]
            have hq22 := Same.new (o := .tup [.int 1, .int 4]) np2 _ _ hq21
            rw [t2 h1, eL] at hq22
            have hD22 := w1722 _ _ hD17
            rw [eL] at hD22
            refine ⟨true, rfl, iteT ⟨.list (l4.map PyData.str), .list (l4.map PyData.str), .lst (SqL.of hq22) (strs_dp l4), .lst (SqL.of hD22) (strs_dp l4), sl4, sl4, ?_⟩⟩
            rw [el4]
            exact ⟨false, rfl, iteF ⟨_, _, ⟨rfl, rfl⟩, s20.trans w22⟩⟩
          · rw [decide_eq_false h1]
            exact ⟨false, rfl, iteF ⟨_, _, ⟨rfl, rfl⟩, s20.trans w22⟩⟩
      rintro σ H20 ⟨u17, u18, rfl, s20⟩
      have s1720 := s1719.trans s20
      have hp20 := s20 _ _ hp
      walk_at "rd"
      refine ⟨_, rfl, D1, rfl, ⟨_, SqL.of (s1720 _ _ hps17)⟩, fun D4 nD4 => lc_list (K := K) (a := D1) (xs := ps) (fun i H' => Same H20 H' ∧ H' D4 = some (.lst ((cs.map fun c => V.bl (c.holds (imF kvs))).take i)))
        ⟨Same.new nD4, upd_same⟩ (fun i H' _ z => SqL.of (z.1 _ _ (s1720 _ _ hps17))) ?_ ?_⟩
      · rintro i y H21 hy ⟨r1, r2⟩
        obtain ⟨c', hc', p'⟩ := (parts17.mono (Same.imm (s1720.trans r1))).at hy
        obtain ⟨a2, C', dx', fs', rfl, ha', hC', hl'⟩ := meth_of (m := "holds") (by decide +kernel) p'
        have hm' := List.mem_of_getElem? hc'
        obtain ⟨g1, g2⟩ := hsm c' hm'
        have := Cond.depth_mem hm'
        refine ⟨rfl, _, rfl, a2, C', dx', fs', rfl, ha', hC', hl', _, rfl, a2, dx', p, fs', c', kvs, rfl, ha', p', r1 _ _ hp20, hg, by omega, by omega, fun H4 s4 => ?_⟩
        exact lc_push (r1.trans s4) nD4 (s4 _ _ r2) (by rw [List.getElem?_map, hc']; rfl) (by rw [List.length_map]; omega)
      rintro H21 ⟨r1, r2⟩
      rw [pl, List.take_of_length_le (by simp)] at r2
      have fl : (cs.map fun c => V.bl (c.holds (imF kvs))).all flatV = true := by simp [List.all_map, flatV]
      have nF := no_false (imF kvs) cs
      have nT := some_true (imF kvs) cs
      have nF' : inV (.bl false) (cs.map fun c => V.bl (c.holds (imF kvs))) = !Cond.alls (imF kvs) cs := by rw [← nF, Bool.not_not]
      have s1721 := s1720.trans r1
      have hp21 := r1 _ _ hp20
      obtain ⟨_, dz, fz, ez, hz⟩ := pz17.ins
      cases ez
      obtain ⟨_, dy, fy, ey, hy⟩ := py17.ins
      cases ey
      obtain ⟨_, dc, fc, ec, hc⟩ := pc17.ins
      cases ec
      obtain ⟨_, dd, fd', ed, hd⟩ := pd17.ins
      cases ed
      refine ⟨_, rfl, z1, _, dz, fz, rfl, s1721 _ _ hz, Cond.has_cls cl _, look_of (by decide +kernel) hz pz17, _, rfl, z1, dz, p, fz, .grp true cs, kvs, rfl, s1721 _ _ hz, pz17.mono (Same.imm s1721), hp21, hg, by have := (hz3 true).2.2; omega, by have := (hz3 true).2.1; omega, fun H22 s22 => ⟨D4, _, rfl, .inl (SqL.of (s22 _ _ r2)), rfl, fl, ?_⟩⟩
      rw [if_pos rfl, nF, show (Cond.grp true cs).holds (imF kvs) = Cond.alls (imF kvs) cs from rfl]
      refine ⟨scal_bb, ?_⟩
      rw [decide_eq_true rfl]
      have s1722 := s1721.trans s22
      refine iteF ⟨_, rfl, y1, _, dy, fy, rfl, s1722 _ _ hy, Cond.has_cls cl _, look_of (by decide +kernel) hy py17, _, rfl, y1, dy, p, fy, .grp false cs, kvs, rfl, s1722 _ _ hy, py17.mono (Same.imm s1722), s22 _ _ hp21, hg, by have := (hz3 false).2.2; omega, by have := (hz3 false).2.1; omega, fun H23 s23 => ⟨D4, _, rfl, .inl (SqL.of (s23 _ _ (s22 _ _ r2))), rfl, fl, ?_⟩⟩
      rw [if_neg Bool.false_ne_true, nT, show (Cond.grp false cs).holds (imF kvs) = Cond.anys (imF kvs) cs from rfl]
      refine ⟨scal_bb, ?_⟩
      rw [decide_eq_true rfl]
      have s2123 := s22.trans s23
      have s1723 := s1721.trans s2123
      have at2 : atI (ps ++ [.ref z1, .ref y1, .ref c1, .ref d1]) (-2) = some (.ref c1) := by
        rw [show ps ++ [V.ref z1, .ref y1, .ref c1, .ref d1] = (ps ++ [.ref z1, .ref y1]) ++ [.ref c1, .ref d1] by simp]
        exact atI_m2 _ _ _
      have at1' : atI (ps ++ [.ref z1, .ref y1, .ref c1, .ref d1]) (-1) = some (.ref d1) := by
        rw [show ps ++ [V.ref z1, .ref y1, .ref c1, .ref d1] = (ps ++ [.ref z1, .ref y1]) ++ [.ref c1, .ref d1] by simp]
        exact atI_m1 _ _ _
      have hds : ∀ sd : Bool, (Cond.not (.grp sd cs)).depth ≤ 20 ∧ (Cond.not (.grp sd cs)).size ≤ 1000 := fun sd => by
        obtain ⟨g1, g2, g3⟩ := hz3 sd
        rw [Cond.depth, Cond.size]
        omega
      refine iteF ⟨_, rfl, 2, rfl, e2, _, -2, .ref c1, rfl, rfl, SqL.of (s1723 _ _ he17), at2, c1, _, dc, fc, rfl, s1723 _ _ hc, Cond.has_cls cl _, look_of (by decide +kernel) hc pc17, _, rfl, c1, dc, p, fc, .not (.grp true cs), kvs, rfl, s1723 _ _ hc, pc17.mono (Same.imm s1723), s2123 _ _ hp21, hg, (hds true).1, (hds true).2, fun H24 s24 => ⟨D4, _, rfl, .inl (SqL.of (s24 _ _ (s2123 _ _ r2))), rfl, fl, ?_⟩⟩
      rw [if_neg Bool.false_ne_true, nF', show (Cond.not (.grp true cs)).holds (imF kvs) = !Cond.alls (imF kvs) cs from rfl]
      refine ⟨scal_bb, ?_⟩
      rw [decide_eq_true rfl]
      have s2124 := s2123.trans s24
      have s1724 := s1721.trans s2124
      refine iteF ⟨_, rfl, 1, rfl, e2, _, -1, .ref d1, rfl, rfl, SqL.of (s1724 _ _ he17), at1', d1, _, dd, fd', rfl, s1724 _ _ hd, Cond.has_cls cl _, look_of (by decide +kernel) hd pd17, _, rfl, d1, dd, p, fd', .not (.grp false cs), kvs, rfl, s1724 _ _ hd, pd17.mono (Same.imm s1724), s2124 _ _ hp21, hg, (hds false).1, (hds false).2, fun H25 s25 => ⟨D4, _, rfl, .inl (SqL.of (s25 _ _ (s2124 _ _ r2))), rfl, fl, ?_⟩⟩
      rw [if_pos rfl, nT, show (Cond.not (.grp false cs)).holds (imF kvs) = !Cond.anys (imF kvs) cs from rfl]
      refine ⟨scal_bb, ?_⟩
      rw [decide_eq_true rfl]
      exact iteF ⟨_, _, _, _, _, _, ⟨rfl, rfl, rfl, rfl, rfl, rfl⟩, s1724.trans s25⟩
    · rintro σ H18 ⟨v13, v14, v15, v16, v17, v18, rfl, s18⟩
      obtain ⟨_, dz, fz, ez, hz⟩ := pz17.ins
      cases ez
      obtain ⟨_, dy, fy, ey, hy⟩ := py17.ins
      cases ey
      have np := T.partof.make.parts.nd
      have TP := T.partof.make.parts
      obtain ⟨tz, vz, csz, ecz, efz, htz, pvz⟩ := inv_gr np (s := true) rfl hz pz17
      obtain ⟨ty, vy, csy, ecy, efy, hty, pvy⟩ := inv_gr np (s := false) rfl hy py17
      cases ecz
      cases ecy
      subst efz efy
      have zl := pvz.length
      walk_at "rd"
      refine ⟨_, rfl, z1, _, dz, _, _, rfl, s18 _ _ hz, TP.cls (Cond.has_cls cl _), TP.np true, lk1s, tz, vz, rfl, s18 _ _ htz, true, rfl, iteF ⟨_, rfl, y1, _, dy, _, _, rfl, s18 _ _ hy, TP.cls (Cond.has_cls cl _), TP.np false, lk1s, ty, vy, rfl, s18 _ _ hty, true, rfl, iteF ?_⟩⟩
      refine ⟨.list (Cond.tolds c4), .list (Cond.tolds c4), .lst (SqL.of (s18 _ _ hcp)) ((cpt.mono (T := cl.has) (Same.imm s18)).dp), .lst (SqL.of (s18 _ _ hg17)) ((every17.mono (T := cl.has) (Same.imm s18)).dp), sh4, sh4, ?_⟩
      rw [ev4]
      refine ⟨true, rfl, iteT ⟨_, rfl, z1, _, dz, _, rfl, s18 _ _ hz, Cond.has_cls cl _, look_of (by decide +kernel) hz pz17, z1, dz, _, .grp true cs, rfl, s18 _ _ hz, pz17.mono (Same.imm s18), by have := (hz3 true).2.2; omega, by have := (hz3 true).2.1; omega, fun H19 v s19 hv => ?_⟩⟩
      have s1719 := s18.trans s19
      have at4 : atI (ts ++ [.ref g3, .ref g6] ++ [.ref g9, .ref g10]) (-4) = some (.ref g3) := atI_neg 4 rfl (by decide) (by simp) (by simp)
      refine ⟨4, rfl, g12, _, -4, .ref g3, rfl, rfl, SqL.of (s1719 _ _ hg17), at4, ?_⟩
      refine ⟨(Cond.grp true cs).told, (Cond.grp true cs).told, hv.dp, ((tg3.mono (T := cl.has) (Same.imm s15)).mono (T := cl.has) (Same.imm s1719)).dp, told_shaped (hz3 true).1 (by have := (hz3 true).2.2; omega), told_shaped (hz3 true).1 (by have := (hz3 true).2.2; omega), ?_⟩
      rw [told_eqv (hz3 true).1]
      refine ⟨true, rfl, iteT ⟨_, rfl, z1, _, dz, _, _, rfl, s1719 _ _ hz, TP.cls (Cond.has_cls cl _), TP.np true, lk1s, tz, rfl, vz, .inr (SqT.of (s1719 _ _ htz)), ts, .inl (SqL.of (s1719 _ _ hpt17)), ?_⟩⟩
      rw [decide_eq_true (by omega : (vz.length : Int) = (ts.length : Int))]
      exact k _
end
theorem fin {P : Program} {w : World} {K : PySem.W.Frag} {mg : Str → Option Value} {h : Heap} {fa : Addr} {cl : Cl} {gp : Addr} (X : K.In h) (G : h.Ns mainGlobals mg) (hfa : mg "law" = some (.ref fa)) (T : Txt K mg cl gp) :
    ∃ fd : FuncData, (∀ (s : Shared) (u : Value), BindsTo s fd ⟨[u], []⟩ [("_law_script", u)]) ∧ ∀ base : Heap, K.In base → base.Ns mainGlobals mg → FnOk P w K mg base CX0 50 fa fd ["_law_script"] (spLaw K) :=
  law_end T.law hfa fun base f fd F => ok_law T F
theorem fin' {P : Program} {w : World} {K : PySem.W.Frag} {mg : Str → Option Value} {h : Heap} {fa fx ct tn sr br gp : Addr} (X : K.In h) (G : h.Ns mainGlobals mg) (hfa : mg "law" = some (.ref fa))
    (a1 : PySem.W.nsIn K mainGlobals "Fixed" = some (some (.ref fx))) (a2 : PySem.W.nsIn K mainGlobals "Contact" = some (some (.ref ct))) (a3 : PySem.W.nsIn K mainGlobals "Turned" = some (some (.ref tn)))
    (a4 : PySem.W.nsIn K mainGlobals "Series" = some (some (.ref sr))) (a5 : PySem.W.nsIn K mainGlobals "Branch" = some (some (.ref br))) (a6 : PySem.W.nsIn K mainGlobals "Group" = some (some (.ref gp))) (T : Txt K mg ⟨fx, ct, tn, sr, br⟩ gp) :
    ∃ fd : FuncData, (∀ (s : Shared) (u : Value), BindsTo s fd ⟨[u], []⟩ [("_law_script", u)]) ∧ ∀ base : Heap, K.In base → base.Ns mainGlobals mg → FnOk P w K mg base CX0 50 fa fd ["_law_script"] (spLaw K) :=
  fin X G hfa T
end My
end
section
open PySem L2 Ru
namespace My
theorem split_TNames {K : PySem.W.Frag} {mg : Str → Option Value} {cl : Cl} {gp : Addr} (p : TNames K mg) (f : TNames K mg → Txt K mg cl gp) : Txt K mg cl gp := f p
theorem split_TParts {K : PySem.W.Frag} {mg : Str → Option Value} {cl : Cl} {gp : Addr} (p : TParts K mg cl) (f : TParts K mg cl → Txt K mg cl gp) : Txt K mg cl gp := f p
theorem split_TMake {K : PySem.W.Frag} {mg : Str → Option Value} {cl : Cl} {gp : Addr} (p : TMake K mg cl) (f : TMake K mg cl → Txt K mg cl gp) : Txt K mg cl gp := f p
theorem split_TPartOf {K : PySem.W.Frag} {mg : Str → Option Value} {cl : Cl} {gp : Addr} (p : TPartOf K mg cl) (f : TPartOf K mg cl → Txt K mg cl gp) : Txt K mg cl gp := f p
theorem split_TCells {K : PySem.W.Frag} {mg : Str → Option Value} {cl : Cl} {gp : Addr} (p : TCells K mg) (f : TCells K mg → Txt K mg cl gp) : Txt K mg cl gp := f p
theorem split_TTrees {K : PySem.W.Frag} {mg : Str → Option Value} {cl : Cl} {gp : Addr} (p : TTrees K mg) (f : TTrees K mg → Txt K mg cl gp) : Txt K mg cl gp := f p
theorem split_TTold {K : PySem.W.Frag} {mg : Str → Option Value} {cl : Cl} {gp : Addr} (p : TTold K mg cl) (f : TTold K mg cl → Txt K mg cl gp) : Txt K mg cl gp := f p
theorem split_TText {K : PySem.W.Frag} {mg : Str → Option Value} {cl : Cl} {gp : Addr} (p : TText K mg cl gp) (f : TText K mg cl gp → Txt K mg cl gp) : Txt K mg cl gp := f p
theorem split_THolds {K : PySem.W.Frag} {mg : Str → Option Value} {cl : Cl} {gp : Addr} (p : THolds K mg cl) (f : THolds K mg cl → Txt K mg cl gp) : Txt K mg cl gp := f p
theorem split_TSome {K : PySem.W.Frag} {mg : Str → Option Value} {cl : Cl} {gp : Addr} (p : TSome K mg cl gp) (f : TSome K mg cl gp → Txt K mg cl gp) : Txt K mg cl gp := f p
end My
end
open PySem PySem.W PyProof.Rows
set_option maxRecDepth 100000 in
set_option maxHeartbeats 0 in
theorem PySem.Challenge.cw_rungworks_k06_whole_apart_holds : PySem.Challenge.rw_rungworks_k06_whole_apart.Holds := by
  w_on; o_law; k_head; (case hw => w_witness2)
  k_fill
  refine Ru.law_walk (l := PySem.Challenge.rw_rungworks_k06_whole_apart) (k := 50) (p := "_law_script") (cx := L2.CX0) ⟨rfl, by decide, by decide⟩ rfl rfl (fun w h Y => PySem.W.kIn_of Y) (fun _ _ _ _ z => z) ?F
  case F =>
    intro w mg fa h KX G hmg
    refine' My.fin' KX G hmg ?a1 ?a2 ?a3 ?a4 ?a5 ?a6 ?T
    (case a1 => k_is)
    (case a2 => k_is)
    (case a3 => k_is)
    (case a4 => k_is)
    (case a5 => k_is)
    (case a6 => k_is)
    case T =>
      refine' My.split_TNames ?p_TNames (fun s_TNames => ?t_TNames)
      case p_TNames =>
        refine' ⟨?TNames_d_is_word, ?TNames_d_is_name, ?TNames_g_SIGNS, ?TNames_g_MOST_SIGNS, ?TNames_g_KEPT, ?TNames_z_len⟩
        (case TNames_d_is_word => (refine' Ru.defAt_mk KX G ?a_TNames_d_is_word ?l_TNames_d_is_word ?c_TNames_d_is_word ?k_TNames_d_is_word ?b_TNames_d_is_word; (case a_TNames_d_is_word => k_is); (case l_TNames_d_is_word => k_is); (case c_TNames_d_is_word => k_is); (case k_TNames_d_is_word => k_is); (case b_TNames_d_is_word => exact fun us hl => match us, hl with | [_], _ => rfl)))
        (case TNames_d_is_name => (refine' Ru.defAt_mk KX G ?a_TNames_d_is_name ?l_TNames_d_is_name ?c_TNames_d_is_name ?k_TNames_d_is_name ?b_TNames_d_is_name; (case a_TNames_d_is_name => k_is); (case l_TNames_d_is_name => k_is); (case c_TNames_d_is_name => k_is); (case k_TNames_d_is_name => k_is); (case b_TNames_d_is_name => exact fun us hl => match us, hl with | [_], _ => rfl)))
        (case TNames_g_SIGNS => (refine' Ru.globC_mk KX G ?a_TNames_g_SIGNS ?r_TNames_g_SIGNS; (case a_TNames_g_SIGNS => k_is); (case r_TNames_g_SIGNS => exact ⟨_, rfl⟩)))
        (case TNames_g_MOST_SIGNS => (refine' Ru.globC_mk KX G ?a_TNames_g_MOST_SIGNS ?r_TNames_g_MOST_SIGNS; (case a_TNames_g_MOST_SIGNS => k_is); (case r_TNames_g_MOST_SIGNS => exact ⟨_, rfl⟩)))
        (case TNames_g_KEPT => (refine' Ru.globT_mk KX G ?a_TNames_g_KEPT ?l_TNames_g_KEPT ?s_TNames_g_KEPT ?v_TNames_g_KEPT; (case a_TNames_g_KEPT => k_is); (case l_TNames_g_KEPT => k_is); (case s_TNames_g_KEPT => exact Ru.line_ge (by decide)); (case v_TNames_g_KEPT => exact Ru.vals_of_B (by decide +kernel))))
        (case TNames_z_len => (exact PySem.W.mg_none_of KX G (by k_is)))
      refine' My.split_TParts ?p_TParts (fun s_TParts => ?t_TParts)
      case p_TParts =>
        refine' ⟨?TParts_c_Fixed, ?TParts_c_Contact, ?TParts_c_Turned, ?TParts_c_Series, ?TParts_c_Branch, ?TParts_nd, ?TParts_nv_fx, ?TParts_nn_ct, ?TParts_np_tn, ?TParts_np_sr, ?TParts_np_br, ?TParts_m_inner_fx, ?TParts_m_inner_ct, ?TParts_m_inner_tn, ?TParts_m_inner_sr, ?TParts_m_inner_br, ?TParts_m_size_fx, ?TParts_m_size_ct, ?TParts_m_size_tn, ?TParts_m_size_sr, ?TParts_m_size_br, ?TParts_m_depth_fx, ?TParts_m_depth_ct, ?TParts_m_depth_tn, ?TParts_m_depth_sr, ?TParts_m_depth_br, ?TParts_m_bounded_tn, ?TParts_m_bounded_sr, ?TParts_m_bounded_br, ?TParts_z_sum, ?TParts_z_max, ?TParts_z_tuple, ?TParts_g_MOST_SIZE, ?TParts_g_MOST_DEEP⟩
        (case TParts_c_Fixed => (refine' Ru.clsAt_mk KX G ?a_TParts_c_Fixed ?b_TParts_c_Fixed ?c_TParts_c_Fixed ?d_TParts_c_Fixed ?e_TParts_c_Fixed ?f_TParts_c_Fixed ?g_TParts_c_Fixed ?h_TParts_c_Fixed ?i_TParts_c_Fixed ?j_TParts_c_Fixed ?k_TParts_c_Fixed; (case a_TParts_c_Fixed => k_is); (case b_TParts_c_Fixed => k_is); (case c_TParts_c_Fixed => k_is); (case d_TParts_c_Fixed => k_is); (case e_TParts_c_Fixed => k_is); (case f_TParts_c_Fixed => k_is); (case g_TParts_c_Fixed => k_is); (case h_TParts_c_Fixed => k_is); (case i_TParts_c_Fixed => k_is); (case j_TParts_c_Fixed => k_is); (case k_TParts_c_Fixed => k_is)))
        (case TParts_c_Contact => (refine' Ru.clsAt_mk KX G ?a_TParts_c_Contact ?b_TParts_c_Contact ?c_TParts_c_Contact ?d_TParts_c_Contact ?e_TParts_c_Contact ?f_TParts_c_Contact ?g_TParts_c_Contact ?h_TParts_c_Contact ?i_TParts_c_Contact ?j_TParts_c_Contact ?k_TParts_c_Contact; (case a_TParts_c_Contact => k_is); (case b_TParts_c_Contact => k_is); (case c_TParts_c_Contact => k_is); (case d_TParts_c_Contact => k_is); (case e_TParts_c_Contact => k_is); (case f_TParts_c_Contact => k_is); (case g_TParts_c_Contact => k_is); (case h_TParts_c_Contact => k_is); (case i_TParts_c_Contact => k_is); (case j_TParts_c_Contact => k_is); (case k_TParts_c_Contact => k_is)))
        (case TParts_c_Turned => (refine' Ru.clsAt_mk KX G ?a_TParts_c_Turned ?b_TParts_c_Turned ?c_TParts_c_Turned ?d_TParts_c_Turned ?e_TParts_c_Turned ?f_TParts_c_Turned ?g_TParts_c_Turned ?h_TParts_c_Turned ?i_TParts_c_Turned ?j_TParts_c_Turned ?k_TParts_c_Turned; (case a_TParts_c_Turned => k_is); (case b_TParts_c_Turned => k_is); (case c_TParts_c_Turned => k_is); (case d_TParts_c_Turned => k_is); (case e_TParts_c_Turned => k_is); (case f_TParts_c_Turned => k_is); (case g_TParts_c_Turned => k_is); (case h_TParts_c_Turned => k_is); (case i_TParts_c_Turned => k_is); (case j_TParts_c_Turned => k_is); (case k_TParts_c_Turned => k_is)))
        (case TParts_c_Series => (refine' Ru.clsAt_mk KX G ?a_TParts_c_Series ?b_TParts_c_Series ?c_TParts_c_Series ?d_TParts_c_Series ?e_TParts_c_Series ?f_TParts_c_Series ?g_TParts_c_Series ?h_TParts_c_Series ?i_TParts_c_Series ?j_TParts_c_Series ?k_TParts_c_Series; (case a_TParts_c_Series => k_is); (case b_TParts_c_Series => k_is); (case c_TParts_c_Series => k_is); (case d_TParts_c_Series => k_is); (case e_TParts_c_Series => k_is); (case f_TParts_c_Series => k_is); (case g_TParts_c_Series => k_is); (case h_TParts_c_Series => k_is); (case i_TParts_c_Series => k_is); (case j_TParts_c_Series => k_is); (case k_TParts_c_Series => k_is)))
        (case TParts_c_Branch => (refine' Ru.clsAt_mk KX G ?a_TParts_c_Branch ?b_TParts_c_Branch ?c_TParts_c_Branch ?d_TParts_c_Branch ?e_TParts_c_Branch ?f_TParts_c_Branch ?g_TParts_c_Branch ?h_TParts_c_Branch ?i_TParts_c_Branch ?j_TParts_c_Branch ?k_TParts_c_Branch; (case a_TParts_c_Branch => k_is); (case b_TParts_c_Branch => k_is); (case c_TParts_c_Branch => k_is); (case d_TParts_c_Branch => k_is); (case e_TParts_c_Branch => k_is); (case f_TParts_c_Branch => k_is); (case g_TParts_c_Branch => k_is); (case h_TParts_c_Branch => k_is); (case i_TParts_c_Branch => k_is); (case j_TParts_c_Branch => k_is); (case k_TParts_c_Branch => k_is)))
        (case TParts_nd => decide)
        (case TParts_nv_fx => (unfold L2.NoAttr; k_is))
        (case TParts_nn_ct => (unfold L2.NoAttr; k_is))
        (case TParts_np_tn => (unfold L2.NoAttr; k_is))
        (case TParts_np_sr => (unfold L2.NoAttr; k_is))
        (case TParts_np_br => (unfold L2.NoAttr; k_is))
        (case TParts_m_inner_fx => (refine' Ru.methAt_mk ?a_TParts_m_inner_fx ?i_TParts_m_inner_fx ?l_TParts_m_inner_fx ?c_TParts_m_inner_fx ?k_TParts_m_inner_fx ?b_TParts_m_inner_fx; (case a_TParts_m_inner_fx => k_is); (case i_TParts_m_inner_fx => k_is); (case l_TParts_m_inner_fx => k_is); (case c_TParts_m_inner_fx => k_is); (case k_TParts_m_inner_fx => k_is); (case b_TParts_m_inner_fx => exact fun us hl => match us, hl with | [_], _ => rfl)))
        (case TParts_m_inner_ct => (refine' Ru.methAt_mk ?a_TParts_m_inner_ct ?i_TParts_m_inner_ct ?l_TParts_m_inner_ct ?c_TParts_m_inner_ct ?k_TParts_m_inner_ct ?b_TParts_m_inner_ct; (case a_TParts_m_inner_ct => k_is); (case i_TParts_m_inner_ct => k_is); (case l_TParts_m_inner_ct => k_is); (case c_TParts_m_inner_ct => k_is); (case k_TParts_m_inner_ct => k_is); (case b_TParts_m_inner_ct => exact fun us hl => match us, hl with | [_], _ => rfl)))
        (case TParts_m_inner_tn => (refine' Ru.methAt_mk ?a_TParts_m_inner_tn ?i_TParts_m_inner_tn ?l_TParts_m_inner_tn ?c_TParts_m_inner_tn ?k_TParts_m_inner_tn ?b_TParts_m_inner_tn; (case a_TParts_m_inner_tn => k_is); (case i_TParts_m_inner_tn => k_is); (case l_TParts_m_inner_tn => k_is); (case c_TParts_m_inner_tn => k_is); (case k_TParts_m_inner_tn => k_is); (case b_TParts_m_inner_tn => exact fun us hl => match us, hl with | [_], _ => rfl)))
        (case TParts_m_inner_sr => (refine' Ru.methAt_mk ?a_TParts_m_inner_sr ?i_TParts_m_inner_sr ?l_TParts_m_inner_sr ?c_TParts_m_inner_sr ?k_TParts_m_inner_sr ?b_TParts_m_inner_sr; (case a_TParts_m_inner_sr => k_is); (case i_TParts_m_inner_sr => k_is); (case l_TParts_m_inner_sr => k_is); (case c_TParts_m_inner_sr => k_is); (case k_TParts_m_inner_sr => k_is); (case b_TParts_m_inner_sr => exact fun us hl => match us, hl with | [_], _ => rfl)))
        (case TParts_m_inner_br => (refine' Ru.methAt_mk ?a_TParts_m_inner_br ?i_TParts_m_inner_br ?l_TParts_m_inner_br ?c_TParts_m_inner_br ?k_TParts_m_inner_br ?b_TParts_m_inner_br; (case a_TParts_m_inner_br => k_is); (case i_TParts_m_inner_br => k_is); (case l_TParts_m_inner_br => k_is); (case c_TParts_m_inner_br => k_is); (case k_TParts_m_inner_br => k_is); (case b_TParts_m_inner_br => exact fun us hl => match us, hl with | [_], _ => rfl)))
        (case TParts_m_size_fx => (refine' Ru.methAt_mk ?a_TParts_m_size_fx ?i_TParts_m_size_fx ?l_TParts_m_size_fx ?c_TParts_m_size_fx ?k_TParts_m_size_fx ?b_TParts_m_size_fx; (case a_TParts_m_size_fx => k_is); (case i_TParts_m_size_fx => k_is); (case l_TParts_m_size_fx => k_is); (case c_TParts_m_size_fx => k_is); (case k_TParts_m_size_fx => k_is); (case b_TParts_m_size_fx => exact fun us hl => match us, hl with | [_], _ => rfl)))
        (case TParts_m_size_ct => (refine' Ru.methAt_mk ?a_TParts_m_size_ct ?i_TParts_m_size_ct ?l_TParts_m_size_ct ?c_TParts_m_size_ct ?k_TParts_m_size_ct ?b_TParts_m_size_ct; (case a_TParts_m_size_ct => k_is); (case i_TParts_m_size_ct => k_is); (case l_TParts_m_size_ct => k_is); (case c_TParts_m_size_ct => k_is); (case k_TParts_m_size_ct => k_is); (case b_TParts_m_size_ct => exact fun us hl => match us, hl with | [_], _ => rfl)))
        (case TParts_m_size_tn => (refine' Ru.methAt_mk ?a_TParts_m_size_tn ?i_TParts_m_size_tn ?l_TParts_m_size_tn ?c_TParts_m_size_tn ?k_TParts_m_size_tn ?b_TParts_m_size_tn; (case a_TParts_m_size_tn => k_is); (case i_TParts_m_size_tn => k_is); (case l_TParts_m_size_tn => k_is); (case c_TParts_m_size_tn => k_is); (case k_TParts_m_size_tn => k_is); (case b_TParts_m_size_tn => exact fun us hl => match us, hl with | [_], _ => rfl)))
        (case TParts_m_size_sr => (refine' Ru.methAt_mk ?a_TParts_m_size_sr ?i_TParts_m_size_sr ?l_TParts_m_size_sr ?c_TParts_m_size_sr ?k_TParts_m_size_sr ?b_TParts_m_size_sr; (case a_TParts_m_size_sr => k_is); (case i_TParts_m_size_sr => k_is); (case l_TParts_m_size_sr => k_is); (case c_TParts_m_size_sr => k_is); (case k_TParts_m_size_sr => k_is); (case b_TParts_m_size_sr => exact fun us hl => match us, hl with | [_], _ => rfl)))
        (case TParts_m_size_br => (refine' Ru.methAt_mk ?a_TParts_m_size_br ?i_TParts_m_size_br ?l_TParts_m_size_br ?c_TParts_m_size_br ?k_TParts_m_size_br ?b_TParts_m_size_br; (case a_TParts_m_size_br => k_is); (case i_TParts_m_size_br => k_is); (case l_TParts_m_size_br => k_is); (case c_TParts_m_size_br => k_is); (case k_TParts_m_size_br => k_is); (case b_TParts_m_size_br => exact fun us hl => match us, hl with | [_], _ => rfl)))
        (case TParts_m_depth_fx => (refine' Ru.methAt_mk ?a_TParts_m_depth_fx ?i_TParts_m_depth_fx ?l_TParts_m_depth_fx ?c_TParts_m_depth_fx ?k_TParts_m_depth_fx ?b_TParts_m_depth_fx; (case a_TParts_m_depth_fx => k_is); (case i_TParts_m_depth_fx => k_is); (case l_TParts_m_depth_fx => k_is); (case c_TParts_m_depth_fx => k_is); (case k_TParts_m_depth_fx => k_is); (case b_TParts_m_depth_fx => exact fun us hl => match us, hl with | [_], _ => rfl)))
        (case TParts_m_depth_ct => (refine' Ru.methAt_mk ?a_TParts_m_depth_ct ?i_TParts_m_depth_ct ?l_TParts_m_depth_ct ?c_TParts_m_depth_ct ?k_TParts_m_depth_ct ?b_TParts_m_depth_ct; (case a_TParts_m_depth_ct => k_is); (case i_TParts_m_depth_ct => k_is); (case l_TParts_m_depth_ct => k_is); (case c_TParts_m_depth_ct => k_is); (case k_TParts_m_depth_ct => k_is); (case b_TParts_m_depth_ct => exact fun us hl => match us, hl with | [_], _ => rfl)))
        (case TParts_m_depth_tn => (refine' Ru.methAt_mk ?a_TParts_m_depth_tn ?i_TParts_m_depth_tn ?l_TParts_m_depth_tn ?c_TParts_m_depth_tn ?k_TParts_m_depth_tn ?b_TParts_m_depth_tn; (case a_TParts_m_depth_tn => k_is); (case i_TParts_m_depth_tn => k_is); (case l_TParts_m_depth_tn => k_is); (case c_TParts_m_depth_tn => k_is); (case k_TParts_m_depth_tn => k_is); (case b_TParts_m_depth_tn => exact fun us hl => match us, hl with | [_], _ => rfl)))
        (case TParts_m_depth_sr => (refine' Ru.methAt_mk ?a_TParts_m_depth_sr ?i_TParts_m_depth_sr ?l_TParts_m_depth_sr ?c_TParts_m_depth_sr ?k_TParts_m_depth_sr ?b_TParts_m_depth_sr; (case a_TParts_m_depth_sr => k_is); (case i_TParts_m_depth_sr => k_is); (case l_TParts_m_depth_sr => k_is); (case c_TParts_m_depth_sr => k_is); (case k_TParts_m_depth_sr => k_is); (case b_TParts_m_depth_sr => exact fun us hl => match us, hl with | [_], _ => rfl)))
        (case TParts_m_depth_br => (refine' Ru.methAt_mk ?a_TParts_m_depth_br ?i_TParts_m_depth_br ?l_TParts_m_depth_br ?c_TParts_m_depth_br ?k_TParts_m_depth_br ?b_TParts_m_depth_br; (case a_TParts_m_depth_br => k_is); (case i_TParts_m_depth_br => k_is); (case l_TParts_m_depth_br => k_is); (case c_TParts_m_depth_br => k_is); (case k_TParts_m_depth_br => k_is); (case b_TParts_m_depth_br => exact fun us hl => match us, hl with | [_], _ => rfl)))
        (case TParts_m_bounded_tn => (refine' Ru.methAt_mk ?a_TParts_m_bounded_tn ?i_TParts_m_bounded_tn ?l_TParts_m_bounded_tn ?c_TParts_m_bounded_tn ?k_TParts_m_bounded_tn ?b_TParts_m_bounded_tn; (case a_TParts_m_bounded_tn => k_is); (case i_TParts_m_bounded_tn => k_is); (case l_TParts_m_bounded_tn => k_is); (case c_TParts_m_bounded_tn => k_is); (case k_TParts_m_bounded_tn => k_is); (case b_TParts_m_bounded_tn => exact fun us hl => match us, hl with | [_], _ => rfl)))
        (case TParts_m_bounded_sr => (refine' Ru.methAt_mk ?a_TParts_m_bounded_sr ?i_TParts_m_bounded_sr ?l_TParts_m_bounded_sr ?c_TParts_m_bounded_sr ?k_TParts_m_bounded_sr ?b_TParts_m_bounded_sr; (case a_TParts_m_bounded_sr => k_is); (case i_TParts_m_bounded_sr => k_is); (case l_TParts_m_bounded_sr => k_is); (case c_TParts_m_bounded_sr => k_is); (case k_TParts_m_bounded_sr => k_is); (case b_TParts_m_bounded_sr => exact fun us hl => match us, hl with | [_], _ => rfl)))
        (case TParts_m_bounded_br => (refine' Ru.methAt_mk ?a_TParts_m_bounded_br ?i_TParts_m_bounded_br ?l_TParts_m_bounded_br ?c_TParts_m_bounded_br ?k_TParts_m_bounded_br ?b_TParts_m_bounded_br; (case a_TParts_m_bounded_br => k_is); (case i_TParts_m_bounded_br => k_is); (case l_TParts_m_bounded_br => k_is); (case c_TParts_m_bounded_br => k_is); (case k_TParts_m_bounded_br => k_is); (case b_TParts_m_bounded_br => exact fun us hl => match us, hl with | [_], _ => rfl)))
        (case TParts_z_sum => (exact PySem.W.mg_none_of KX G (by k_is)))
        (case TParts_z_max => (exact PySem.W.mg_none_of KX G (by k_is)))
        (case TParts_z_tuple => (exact PySem.W.mg_none_of KX G (by k_is)))
        (case TParts_g_MOST_SIZE => (refine' Ru.globC_mk KX G ?a_TParts_g_MOST_SIZE ?r_TParts_g_MOST_SIZE; (case a_TParts_g_MOST_SIZE => k_is); (case r_TParts_g_MOST_SIZE => exact ⟨_, rfl⟩)))
        (case TParts_g_MOST_DEEP => (refine' Ru.globC_mk KX G ?a_TParts_g_MOST_DEEP ?r_TParts_g_MOST_DEEP; (case a_TParts_g_MOST_DEEP => k_is); (case r_TParts_g_MOST_DEEP => exact ⟨_, rfl⟩)))
      refine' My.split_TMake ?p_TMake (fun s_TMake => ?t_TMake)
      case p_TMake =>
        refine' ⟨s_TNames, s_TParts, ?TMake_i_fx, ?TMake_i_ct, ?TMake_i_tn, ?TMake_i_sr, ?TMake_i_br, ?TMake_z_len, ?TMake_z_tuple⟩
        (case TMake_i_fx => (refine' Ru.methAt_mk ?a_TMake_i_fx ?i_TMake_i_fx ?l_TMake_i_fx ?c_TMake_i_fx ?k_TMake_i_fx ?b_TMake_i_fx; (case a_TMake_i_fx => k_is); (case i_TMake_i_fx => k_is); (case l_TMake_i_fx => k_is); (case c_TMake_i_fx => k_is); (case k_TMake_i_fx => k_is); (case b_TMake_i_fx => exact fun us hl => match us, hl with | [_, _], _ => rfl)))
        (case TMake_i_ct => (refine' Ru.methAt_mk ?a_TMake_i_ct ?i_TMake_i_ct ?l_TMake_i_ct ?c_TMake_i_ct ?k_TMake_i_ct ?b_TMake_i_ct; (case a_TMake_i_ct => k_is); (case i_TMake_i_ct => k_is); (case l_TMake_i_ct => k_is); (case c_TMake_i_ct => k_is); (case k_TMake_i_ct => k_is); (case b_TMake_i_ct => exact fun us hl => match us, hl with | [_, _], _ => rfl)))
        (case TMake_i_tn => (refine' Ru.methAt_mk ?a_TMake_i_tn ?i_TMake_i_tn ?l_TMake_i_tn ?c_TMake_i_tn ?k_TMake_i_tn ?b_TMake_i_tn; (case a_TMake_i_tn => k_is); (case i_TMake_i_tn => k_is); (case l_TMake_i_tn => k_is); (case c_TMake_i_tn => k_is); (case k_TMake_i_tn => k_is); (case b_TMake_i_tn => exact fun us hl => match us, hl with | [_, _], _ => rfl)))
        (case TMake_i_sr => (refine' Ru.methAt_mk ?a_TMake_i_sr ?i_TMake_i_sr ?l_TMake_i_sr ?c_TMake_i_sr ?k_TMake_i_sr ?b_TMake_i_sr; (case a_TMake_i_sr => k_is); (case i_TMake_i_sr => k_is); (case l_TMake_i_sr => k_is); (case c_TMake_i_sr => k_is); (case k_TMake_i_sr => k_is); (case b_TMake_i_sr => exact fun us hl => match us, hl with | [_, _], _ => rfl)))
        (case TMake_i_br => (refine' Ru.methAt_mk ?a_TMake_i_br ?i_TMake_i_br ?l_TMake_i_br ?c_TMake_i_br ?k_TMake_i_br ?b_TMake_i_br; (case a_TMake_i_br => k_is); (case i_TMake_i_br => k_is); (case l_TMake_i_br => k_is); (case c_TMake_i_br => k_is); (case k_TMake_i_br => k_is); (case b_TMake_i_br => exact fun us hl => match us, hl with | [_, _], _ => rfl)))
        (case TMake_z_len => (exact PySem.W.mg_none_of KX G (by k_is)))
        (case TMake_z_tuple => (exact PySem.W.mg_none_of KX G (by k_is)))
      refine' My.split_TPartOf ?p_TPartOf (fun s_TPartOf => ?t_TPartOf)
      case p_TPartOf =>
        refine' ⟨s_TMake, ?TPartOf_d_single, ?TPartOf_d_joined, ?TPartOf_d_part_of, ?TPartOf_z_len⟩
        (case TPartOf_d_single => (refine' Ru.defAt_mk KX G ?a_TPartOf_d_single ?l_TPartOf_d_single ?c_TPartOf_d_single ?k_TPartOf_d_single ?b_TPartOf_d_single; (case a_TPartOf_d_single => k_is); (case l_TPartOf_d_single => k_is); (case c_TPartOf_d_single => k_is); (case k_TPartOf_d_single => k_is); (case b_TPartOf_d_single => exact fun us hl => match us, hl with | [_], _ => rfl)))
        (case TPartOf_d_joined => (refine' Ru.defAt_mk KX G ?a_TPartOf_d_joined ?l_TPartOf_d_joined ?c_TPartOf_d_joined ?k_TPartOf_d_joined ?b_TPartOf_d_joined; (case a_TPartOf_d_joined => k_is); (case l_TPartOf_d_joined => k_is); (case c_TPartOf_d_joined => k_is); (case k_TPartOf_d_joined => k_is); (case b_TPartOf_d_joined => exact fun us hl => match us, hl with | [_, _], _ => rfl)))
        (case TPartOf_d_part_of => (refine' Ru.defAt_mk KX G ?a_TPartOf_d_part_of ?l_TPartOf_d_part_of ?c_TPartOf_d_part_of ?k_TPartOf_d_part_of ?b_TPartOf_d_part_of; (case a_TPartOf_d_part_of => k_is); (case l_TPartOf_d_part_of => k_is); (case c_TPartOf_d_part_of => k_is); (case k_TPartOf_d_part_of => k_is); (case b_TPartOf_d_part_of => exact fun us hl => match us, hl with | [_], _ => rfl)))
        (case TPartOf_z_len => (exact PySem.W.mg_none_of KX G (by k_is)))
      refine' My.split_TCells ?p_TCells (fun s_TCells => ?t_TCells)
      case p_TCells =>
        refine' ⟨?TCells_d_cell_at, ?TCells_d_mixed, ?TCells_d_word, ?TCells_z_len, ?TCells_z_range⟩
        (case TCells_d_cell_at => (refine' Ru.defAt_mk KX G ?a_TCells_d_cell_at ?l_TCells_d_cell_at ?c_TCells_d_cell_at ?k_TCells_d_cell_at ?b_TCells_d_cell_at; (case a_TCells_d_cell_at => k_is); (case l_TCells_d_cell_at => k_is); (case c_TCells_d_cell_at => k_is); (case k_TCells_d_cell_at => k_is); (case b_TCells_d_cell_at => exact fun us hl => match us, hl with | [_, _], _ => rfl)))
        (case TCells_d_mixed => (refine' Ru.defAt_mk KX G ?a_TCells_d_mixed ?l_TCells_d_mixed ?c_TCells_d_mixed ?k_TCells_d_mixed ?b_TCells_d_mixed; (case a_TCells_d_mixed => k_is); (case l_TCells_d_mixed => k_is); (case c_TCells_d_mixed => k_is); (case k_TCells_d_mixed => k_is); (case b_TCells_d_mixed => exact fun us hl => match us, hl with | [_, _], _ => rfl)))
        (case TCells_d_word => (refine' Ru.defAt_mk KX G ?a_TCells_d_word ?l_TCells_d_word ?c_TCells_d_word ?k_TCells_d_word ?b_TCells_d_word; (case a_TCells_d_word => k_is); (case l_TCells_d_word => k_is); (case c_TCells_d_word => k_is); (case k_TCells_d_word => k_is); (case b_TCells_d_word => exact fun us hl => match us, hl with | [_, _], _ => rfl)))
        (case TCells_z_len => (exact PySem.W.mg_none_of KX G (by k_is)))
        (case TCells_z_range => (exact PySem.W.mg_none_of KX G (by k_is)))
      refine' My.split_TTrees ?p_TTrees (fun s_TTrees => ?t_TTrees)
      case p_TTrees =>
        refine' ⟨s_TCells, ?TTrees_d_names, ?TTrees_d_grown, ?TTrees_d_size, ?TTrees_d_trees, ?TTrees_z_len, ?TTrees_z_range, ?TTrees_z_sum, ?TTrees_z_tuple, ?TTrees_z_int⟩
        (case TTrees_d_names => (refine' Ru.defAt_mk KX G ?a_TTrees_d_names ?l_TTrees_d_names ?c_TTrees_d_names ?k_TTrees_d_names ?b_TTrees_d_names; (case a_TTrees_d_names => k_is); (case l_TTrees_d_names => k_is); (case c_TTrees_d_names => k_is); (case k_TTrees_d_names => k_is); (case b_TTrees_d_names => exact fun us hl => match us, hl with | [_], _ => rfl)))
        (case TTrees_d_grown => (refine' Ru.defAt_mk KX G ?a_TTrees_d_grown ?l_TTrees_d_grown ?c_TTrees_d_grown ?k_TTrees_d_grown ?b_TTrees_d_grown; (case a_TTrees_d_grown => k_is); (case l_TTrees_d_grown => k_is); (case c_TTrees_d_grown => k_is); (case k_TTrees_d_grown => k_is); (case b_TTrees_d_grown => exact fun us hl => match us, hl with | [_, _, _], _ => rfl)))
        (case TTrees_d_size => (refine' Ru.defAt_mk KX G ?a_TTrees_d_size ?l_TTrees_d_size ?c_TTrees_d_size ?k_TTrees_d_size ?b_TTrees_d_size; (case a_TTrees_d_size => k_is); (case l_TTrees_d_size => k_is); (case c_TTrees_d_size => k_is); (case k_TTrees_d_size => k_is); (case b_TTrees_d_size => exact fun us hl => match us, hl with | [_], _ => rfl)))
        (case TTrees_d_trees => (refine' Ru.defAt_mk KX G ?a_TTrees_d_trees ?l_TTrees_d_trees ?c_TTrees_d_trees ?k_TTrees_d_trees ?b_TTrees_d_trees; (case a_TTrees_d_trees => k_is); (case l_TTrees_d_trees => k_is); (case c_TTrees_d_trees => k_is); (case k_TTrees_d_trees => k_is); (case b_TTrees_d_trees => exact fun us hl => match us, hl with | [_, _, _, _], _ => rfl)))
        (case TTrees_z_len => (exact PySem.W.mg_none_of KX G (by k_is)))
        (case TTrees_z_range => (exact PySem.W.mg_none_of KX G (by k_is)))
        (case TTrees_z_sum => (exact PySem.W.mg_none_of KX G (by k_is)))
        (case TTrees_z_tuple => (exact PySem.W.mg_none_of KX G (by k_is)))
        (case TTrees_z_int => (exact PySem.W.mg_none_of KX G (by k_is)))
      refine' My.split_TTold ?p_TTold (fun s_TTold => ?t_TTold)
      case p_TTold =>
        refine' ⟨s_TParts, ?TTold_m_told_fx, ?TTold_m_told_ct, ?TTold_m_told_tn, ?TTold_m_told_sr, ?TTold_m_told_br, ?TTold_m_word_sr, ?TTold_m_word_br, ?TTold_z_tuple⟩
        (case TTold_m_told_fx => (refine' Ru.methAt_mk ?a_TTold_m_told_fx ?i_TTold_m_told_fx ?l_TTold_m_told_fx ?c_TTold_m_told_fx ?k_TTold_m_told_fx ?b_TTold_m_told_fx; (case a_TTold_m_told_fx => k_is); (case i_TTold_m_told_fx => k_is); (case l_TTold_m_told_fx => k_is); (case c_TTold_m_told_fx => k_is); (case k_TTold_m_told_fx => k_is); (case b_TTold_m_told_fx => exact fun us hl => match us, hl with | [_], _ => rfl)))
        (case TTold_m_told_ct => (refine' Ru.methAt_mk ?a_TTold_m_told_ct ?i_TTold_m_told_ct ?l_TTold_m_told_ct ?c_TTold_m_told_ct ?k_TTold_m_told_ct ?b_TTold_m_told_ct; (case a_TTold_m_told_ct => k_is); (case i_TTold_m_told_ct => k_is); (case l_TTold_m_told_ct => k_is); (case c_TTold_m_told_ct => k_is); (case k_TTold_m_told_ct => k_is); (case b_TTold_m_told_ct => exact fun us hl => match us, hl with | [_], _ => rfl)))
        (case TTold_m_told_tn => (refine' Ru.methAt_mk ?a_TTold_m_told_tn ?i_TTold_m_told_tn ?l_TTold_m_told_tn ?c_TTold_m_told_tn ?k_TTold_m_told_tn ?b_TTold_m_told_tn; (case a_TTold_m_told_tn => k_is); (case i_TTold_m_told_tn => k_is); (case l_TTold_m_told_tn => k_is); (case c_TTold_m_told_tn => k_is); (case k_TTold_m_told_tn => k_is); (case b_TTold_m_told_tn => exact fun us hl => match us, hl with | [_], _ => rfl)))
        (case TTold_m_told_sr => (refine' Ru.methAt_mk ?a_TTold_m_told_sr ?i_TTold_m_told_sr ?l_TTold_m_told_sr ?c_TTold_m_told_sr ?k_TTold_m_told_sr ?b_TTold_m_told_sr; (case a_TTold_m_told_sr => k_is); (case i_TTold_m_told_sr => k_is); (case l_TTold_m_told_sr => k_is); (case c_TTold_m_told_sr => k_is); (case k_TTold_m_told_sr => k_is); (case b_TTold_m_told_sr => exact fun us hl => match us, hl with | [_], _ => rfl)))
        (case TTold_m_told_br => (refine' Ru.methAt_mk ?a_TTold_m_told_br ?i_TTold_m_told_br ?l_TTold_m_told_br ?c_TTold_m_told_br ?k_TTold_m_told_br ?b_TTold_m_told_br; (case a_TTold_m_told_br => k_is); (case i_TTold_m_told_br => k_is); (case l_TTold_m_told_br => k_is); (case c_TTold_m_told_br => k_is); (case k_TTold_m_told_br => k_is); (case b_TTold_m_told_br => exact fun us hl => match us, hl with | [_], _ => rfl)))
        (case TTold_m_word_sr => (refine' Ru.methAt_mk ?a_TTold_m_word_sr ?i_TTold_m_word_sr ?l_TTold_m_word_sr ?c_TTold_m_word_sr ?k_TTold_m_word_sr ?b_TTold_m_word_sr; (case a_TTold_m_word_sr => k_is); (case i_TTold_m_word_sr => k_is); (case l_TTold_m_word_sr => k_is); (case c_TTold_m_word_sr => k_is); (case k_TTold_m_word_sr => k_is); (case b_TTold_m_word_sr => exact fun us hl => match us, hl with | [_], _ => rfl)))
        (case TTold_m_word_br => (refine' Ru.methAt_mk ?a_TTold_m_word_br ?i_TTold_m_word_br ?l_TTold_m_word_br ?c_TTold_m_word_br ?k_TTold_m_word_br ?b_TTold_m_word_br; (case a_TTold_m_word_br => k_is); (case i_TTold_m_word_br => k_is); (case l_TTold_m_word_br => k_is); (case c_TTold_m_word_br => k_is); (case k_TTold_m_word_br => k_is); (case b_TTold_m_word_br => exact fun us hl => match us, hl with | [_], _ => rfl)))
        (case TTold_z_tuple => (exact PySem.W.mg_none_of KX G (by k_is)))
      refine' My.split_TText ?p_TText (fun s_TText => ?t_TText)
      case p_TText =>
        refine' ⟨s_TTold, ?TText_d_bracketed, ?TText_m_text_fx, ?TText_m_text_ct, ?TText_m_text_tn, ?TText_m_text_sr, ?TText_m_text_br, ?TText_m_wraps_sr, ?TText_m_wraps_br, ?TText_z_isinstance, ?TText_c_Group, ?TText_o_fx_gp, ?TText_o_ct_gp, ?TText_o_tn_gp, ?TText_o_sr_gp, ?TText_o_br_gp, ?TText_o_fx_br, ?TText_o_ct_br, ?TText_o_tn_br, ?TText_o_sr_br, ?TText_o_br_br⟩
        (case TText_d_bracketed => (refine' Ru.defAt_mk KX G ?a_TText_d_bracketed ?l_TText_d_bracketed ?c_TText_d_bracketed ?k_TText_d_bracketed ?b_TText_d_bracketed; (case a_TText_d_bracketed => k_is); (case l_TText_d_bracketed => k_is); (case c_TText_d_bracketed => k_is); (case k_TText_d_bracketed => k_is); (case b_TText_d_bracketed => exact fun us hl => match us, hl with | [_, _], _ => rfl)))
        (case TText_m_text_fx => (refine' Ru.methAt_mk ?a_TText_m_text_fx ?i_TText_m_text_fx ?l_TText_m_text_fx ?c_TText_m_text_fx ?k_TText_m_text_fx ?b_TText_m_text_fx; (case a_TText_m_text_fx => k_is); (case i_TText_m_text_fx => k_is); (case l_TText_m_text_fx => k_is); (case c_TText_m_text_fx => k_is); (case k_TText_m_text_fx => k_is); (case b_TText_m_text_fx => exact fun us hl => match us, hl with | [_], _ => rfl)))
        (case TText_m_text_ct => (refine' Ru.methAt_mk ?a_TText_m_text_ct ?i_TText_m_text_ct ?l_TText_m_text_ct ?c_TText_m_text_ct ?k_TText_m_text_ct ?b_TText_m_text_ct; (case a_TText_m_text_ct => k_is); (case i_TText_m_text_ct => k_is); (case l_TText_m_text_ct => k_is); (case c_TText_m_text_ct => k_is); (case k_TText_m_text_ct => k_is); (case b_TText_m_text_ct => exact fun us hl => match us, hl with | [_], _ => rfl)))
        (case TText_m_text_tn => (refine' Ru.methAt_mk ?a_TText_m_text_tn ?i_TText_m_text_tn ?l_TText_m_text_tn ?c_TText_m_text_tn ?k_TText_m_text_tn ?b_TText_m_text_tn; (case a_TText_m_text_tn => k_is); (case i_TText_m_text_tn => k_is); (case l_TText_m_text_tn => k_is); (case c_TText_m_text_tn => k_is); (case k_TText_m_text_tn => k_is); (case b_TText_m_text_tn => exact fun us hl => match us, hl with | [_], _ => rfl)))
        (case TText_m_text_sr => (refine' Ru.methAt_mk ?a_TText_m_text_sr ?i_TText_m_text_sr ?l_TText_m_text_sr ?c_TText_m_text_sr ?k_TText_m_text_sr ?b_TText_m_text_sr; (case a_TText_m_text_sr => k_is); (case i_TText_m_text_sr => k_is); (case l_TText_m_text_sr => k_is); (case c_TText_m_text_sr => k_is); (case k_TText_m_text_sr => k_is); (case b_TText_m_text_sr => exact fun us hl => match us, hl with | [_], _ => rfl)))
        (case TText_m_text_br => (refine' Ru.methAt_mk ?a_TText_m_text_br ?i_TText_m_text_br ?l_TText_m_text_br ?c_TText_m_text_br ?k_TText_m_text_br ?b_TText_m_text_br; (case a_TText_m_text_br => k_is); (case i_TText_m_text_br => k_is); (case l_TText_m_text_br => k_is); (case c_TText_m_text_br => k_is); (case k_TText_m_text_br => k_is); (case b_TText_m_text_br => exact fun us hl => match us, hl with | [_], _ => rfl)))
        (case TText_m_wraps_sr => (refine' Ru.methAt_mk ?a_TText_m_wraps_sr ?i_TText_m_wraps_sr ?l_TText_m_wraps_sr ?c_TText_m_wraps_sr ?k_TText_m_wraps_sr ?b_TText_m_wraps_sr; (case a_TText_m_wraps_sr => k_is); (case i_TText_m_wraps_sr => k_is); (case l_TText_m_wraps_sr => k_is); (case c_TText_m_wraps_sr => k_is); (case k_TText_m_wraps_sr => k_is); (case b_TText_m_wraps_sr => exact fun us hl => match us, hl with | [_, _], _ => rfl)))
        (case TText_m_wraps_br => (refine' Ru.methAt_mk ?a_TText_m_wraps_br ?i_TText_m_wraps_br ?l_TText_m_wraps_br ?c_TText_m_wraps_br ?k_TText_m_wraps_br ?b_TText_m_wraps_br; (case a_TText_m_wraps_br => k_is); (case i_TText_m_wraps_br => k_is); (case l_TText_m_wraps_br => k_is); (case c_TText_m_wraps_br => k_is); (case k_TText_m_wraps_br => k_is); (case b_TText_m_wraps_br => exact fun us hl => match us, hl with | [_, _], _ => rfl)))
        (case TText_z_isinstance => (exact PySem.W.mg_none_of KX G (by k_is)))
        (case TText_c_Group => (refine' Ru.clsAt_mk KX G ?a_TText_c_Group ?b_TText_c_Group ?c_TText_c_Group ?d_TText_c_Group ?e_TText_c_Group ?f_TText_c_Group ?g_TText_c_Group ?h_TText_c_Group ?i_TText_c_Group ?j_TText_c_Group ?k_TText_c_Group; (case a_TText_c_Group => k_is); (case b_TText_c_Group => k_is); (case c_TText_c_Group => k_is); (case d_TText_c_Group => k_is); (case e_TText_c_Group => k_is); (case f_TText_c_Group => k_is); (case g_TText_c_Group => k_is); (case h_TText_c_Group => k_is); (case i_TText_c_Group => k_is); (case j_TText_c_Group => k_is); (case k_TText_c_Group => k_is)))
        (case TText_o_fx_gp => (try dsimp only; kit_is))
        (case TText_o_ct_gp => (try dsimp only; kit_is))
        (case TText_o_tn_gp => (try dsimp only; kit_is))
        (case TText_o_sr_gp => (try dsimp only; kit_is))
        (case TText_o_br_gp => (try dsimp only; kit_is))
        (case TText_o_fx_br => (try dsimp only; kit_is))
        (case TText_o_ct_br => (try dsimp only; kit_is))
        (case TText_o_tn_br => (try dsimp only; kit_is))
        (case TText_o_sr_br => (try dsimp only; kit_is))
        (case TText_o_br_br => (try dsimp only; kit_is))
      refine' My.split_THolds ?p_THolds (fun s_THolds => ?t_THolds)
      case p_THolds =>
        refine' ⟨s_TParts, ?THolds_m_holds_fx, ?THolds_m_holds_ct, ?THolds_m_holds_tn, ?THolds_m_holds_sr, ?THolds_m_holds_br, ?THolds_z_all, ?THolds_z_any⟩
        (case THolds_m_holds_fx => (refine' Ru.methAt_mk ?a_THolds_m_holds_fx ?i_THolds_m_holds_fx ?l_THolds_m_holds_fx ?c_THolds_m_holds_fx ?k_THolds_m_holds_fx ?b_THolds_m_holds_fx; (case a_THolds_m_holds_fx => k_is); (case i_THolds_m_holds_fx => k_is); (case l_THolds_m_holds_fx => k_is); (case c_THolds_m_holds_fx => k_is); (case k_THolds_m_holds_fx => k_is); (case b_THolds_m_holds_fx => exact fun us hl => match us, hl with | [_, _], _ => rfl)))
        (case THolds_m_holds_ct => (refine' Ru.methAt_mk ?a_THolds_m_holds_ct ?i_THolds_m_holds_ct ?l_THolds_m_holds_ct ?c_THolds_m_holds_ct ?k_THolds_m_holds_ct ?b_THolds_m_holds_ct; (case a_THolds_m_holds_ct => k_is); (case i_THolds_m_holds_ct => k_is); (case l_THolds_m_holds_ct => k_is); (case c_THolds_m_holds_ct => k_is); (case k_THolds_m_holds_ct => k_is); (case b_THolds_m_holds_ct => exact fun us hl => match us, hl with | [_, _], _ => rfl)))
        (case THolds_m_holds_tn => (refine' Ru.methAt_mk ?a_THolds_m_holds_tn ?i_THolds_m_holds_tn ?l_THolds_m_holds_tn ?c_THolds_m_holds_tn ?k_THolds_m_holds_tn ?b_THolds_m_holds_tn; (case a_THolds_m_holds_tn => k_is); (case i_THolds_m_holds_tn => k_is); (case l_THolds_m_holds_tn => k_is); (case c_THolds_m_holds_tn => k_is); (case k_THolds_m_holds_tn => k_is); (case b_THolds_m_holds_tn => exact fun us hl => match us, hl with | [_, _], _ => rfl)))
        (case THolds_m_holds_sr => (refine' Ru.methAt_mk ?a_THolds_m_holds_sr ?i_THolds_m_holds_sr ?l_THolds_m_holds_sr ?c_THolds_m_holds_sr ?k_THolds_m_holds_sr ?b_THolds_m_holds_sr; (case a_THolds_m_holds_sr => k_is); (case i_THolds_m_holds_sr => k_is); (case l_THolds_m_holds_sr => k_is); (case c_THolds_m_holds_sr => k_is); (case k_THolds_m_holds_sr => k_is); (case b_THolds_m_holds_sr => exact fun us hl => match us, hl with | [_, _], _ => rfl)))
        (case THolds_m_holds_br => (refine' Ru.methAt_mk ?a_THolds_m_holds_br ?i_THolds_m_holds_br ?l_THolds_m_holds_br ?c_THolds_m_holds_br ?k_THolds_m_holds_br ?b_THolds_m_holds_br; (case a_THolds_m_holds_br => k_is); (case i_THolds_m_holds_br => k_is); (case l_THolds_m_holds_br => k_is); (case c_THolds_m_holds_br => k_is); (case k_THolds_m_holds_br => k_is); (case b_THolds_m_holds_br => exact fun us hl => match us, hl with | [_, _], _ => rfl)))
        (case THolds_z_all => (exact PySem.W.mg_none_of KX G (by k_is)))
        (case THolds_z_any => (exact PySem.W.mg_none_of KX G (by k_is)))
      refine' My.split_TSome ?p_TSome (fun s_TSome => ?t_TSome)
      case p_TSome =>
        refine' ⟨s_TTrees, s_TText, s_THolds, ?TSome_d_asked, ?TSome_d_some⟩
        (case TSome_d_asked => (refine' Ru.defAt_mk KX G ?a_TSome_d_asked ?l_TSome_d_asked ?c_TSome_d_asked ?k_TSome_d_asked ?b_TSome_d_asked; (case a_TSome_d_asked => k_is); (case l_TSome_d_asked => k_is); (case c_TSome_d_asked => k_is); (case k_TSome_d_asked => k_is); (case b_TSome_d_asked => exact fun us hl => match us, hl with | [_, _, _], _ => rfl)))
        (case TSome_d_some => (refine' Ru.defAt_mk KX G ?a_TSome_d_some ?l_TSome_d_some ?c_TSome_d_some ?k_TSome_d_some ?b_TSome_d_some; (case a_TSome_d_some => k_is); (case l_TSome_d_some => k_is); (case c_TSome_d_some => k_is); (case k_TSome_d_some => k_is); (case b_TSome_d_some => exact fun us hl => match us, hl with | [_, _], _ => rfl)))
      refine' ⟨s_TPartOf, s_TSome, ?Txt_z_range, ?Txt_z_len, ?Txt_z_tuple, ?Txt_z_list, ?Txt_z_isinstance, ?Txt_law⟩
      (case Txt_z_range => (exact PySem.W.mg_none_of KX G (by k_is)))
      (case Txt_z_len => (exact PySem.W.mg_none_of KX G (by k_is)))
      (case Txt_z_tuple => (exact PySem.W.mg_none_of KX G (by k_is)))
      (case Txt_z_list => (exact PySem.W.mg_none_of KX G (by k_is)))
      (case Txt_z_isinstance => (exact PySem.W.mg_none_of KX G (by k_is)))
      (case Txt_law => (refine' Ru.lawAt_mk KX G ?a_Txt_law ?l_Txt_law ?c_Txt_law ?k_Txt_law ?b_Txt_law; (case a_Txt_law => k_is); (case l_Txt_law => k_is); (case c_Txt_law => k_is); (case k_Txt_law => k_is); (case b_Txt_law => exact fun _ => rfl)))
#print axioms PySem.Challenge.cw_rungworks_k06_whole_apart_holds
